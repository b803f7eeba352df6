import PyProof.Rows.All
import Wide.All
import OpenK.AllK
import Wide.FinOn
import HandS.ForMost
import HandS.Wide
import HandS.WideBits
import HandS.IsInst
import HandS.Exc
import HandS.ExcOwn
import HandS.TryOnly
import HandS.WordsExc
import HandS.Conv
import KE.KDictKeyed
import HandS.Lambda
import HandS.ExcIs
import HandS.ExcField
import HandS.TupAny
import HandS.TupMul
import HandS.Flow
import HandS.Style
import HandS.Small
import HandS.Iter
import HandS.TupSets
import KE.GoesEnum
import PyProof.ReprRoads
import PyProof.ReprLen
import HandS.SortRule
import HandS.SetBool
import HandS.Strs
import HandS.EndTab
import KE.KExcIs
import HandS.TryMany
import HandS.Property
import KE.DataFind
import HandS.Deep
import HandS.More
import HandS.Defaults
import HandS.TupLe
import HandS.SlotsOwn
import HandS.Words
import KE.KExcSuper
import HandS.ExcInit
import PySem.Challenge.RW_flashfolds_k19_halves_and_stretches_refu
set_option Elab.async false
set_option linter.all false
set_option maxRecDepth 100000
namespace Px
open PySem PySem.Spec PyProof.Rows L2

/-! ## plain data -/
inductive D where
  | non | bl (b : Bool) | int (i : Int) | str (s : Str)
  | tup (l : List D) | lst (l : List D)
  | dic (ks : List Key) (l : List D)
  | obj (C : Addr) (ns : List Str) (l : List D)
  | raw (v : V)
  | scr (ns : List Int)
  /-- a lambda, with its code object's name and what the slots of its maker hold -/
  | clo (f c : Addr) (q : Str) (xs : List V) (l : List D)
  /-- an exception that was caught: its class, its dict, its own attributes -/
  | exv (a : Addr) (cls : Value) (d : Option Addr) (ns : List Str) (l : List D)
/-- a caught exception's object -/
def ExV (cls : Value) (d : Option Addr) (a : Addr) : HO := .ext fun h => ∃ (oe : Obj) (vs : Array Value), h.get? a = some oe ∧ Zc cls d oe ∧ oe.data = .fields vs

section
variable (K : PySem.W.Frag) (F : Hp)
mutual
def Rp : D → V → Prop
  | .non, v => v = .non
  | .bl b, v => v = .bl b
  | .int i, v => v = .int i
  | .str s, v => v = .str s
  | .tup l, v => ∃ a xs, v = .ref a ∧ SqT K F a xs ∧ RpL l xs
  | .lst l, v => ∃ a xs, v = .ref a ∧ F a = some (.lst xs) ∧ RpL l xs
  | .dic ks l, v => ∃ a kvs, v = .ref a ∧ Rd F a (.dK kvs) ∧ kvs.map (·.1) = ks ∧ RpL l (kvs.map (·.2))
  | .obj C ns l, v => ∃ a dx fs, v = .ref a ∧ F a = some (.ins C dx fs) ∧ fs.map (·.1) = ns ∧ RpL l (fs.map (·.2))
  | .raw w, v => v = w
  | .scr ns, v => ∃ a, v = .ref a ∧ SqL K F a (ns.map V.int)
  | .clo f c q xs l, v => v = .ref f ∧ F c = some (LamX.CodeO c q) ∧ RpL l xs
  | .exv a cls d ns l, v => v = .ref a ∧ F a = some (ExV cls d a) ∧ ((d = none ∧ ns = [] ∧ l = []) ∨ ∃ b ys, d = some b ∧ F b = some (.xd ys) ∧ ys.map (·.1) = ns ∧ RpL l (ys.map (·.2)))
def RpL : List D → List V → Prop
  | [], xs => xs = []
  | d :: ds, xs => ∃ x r, xs = x :: r ∧ Rp d x ∧ RpL ds r
end
end
section
variable {K : PySem.W.Frag} {F F' : Hp}
theorem same_rd {a : Addr} {u : HO} (e : Same F F') (h : Rd F a u) : Rd F' a u := by
  rcases h with h | ⟨o, h⟩
  · exact .inl (e a _ h)
  · exact .inr ⟨o, e a _ h⟩
theorem same_l {a : Addr} {xs : List V} (e : Same F F') (h : SqL K F a xs) : SqL K F' a xs := h.elim (fun h => .inl (same_rd e h)) .inr
theorem same_t {a : Addr} {xs : List V} (e : Same F F') (h : SqT K F a xs) : SqT K F' a xs := h.elim (fun h => .inl (same_rd e h)) .inr
mutual
theorem Rp.mono (e : Same F F') : ∀ (d : D) (v : V), Rp K F d v → Rp K F' d v
  | .non, _, h => h
  | .bl _, _, h => h
  | .int _, _, h => h
  | .str _, _, h => h
  | .tup l, _, ⟨a, xs, e1, s, r⟩ => ⟨a, xs, e1, same_t e s, RpL.mono e l xs r⟩
  | .lst l, _, ⟨a, xs, e1, s, r⟩ => ⟨a, xs, e1, e _ _ s, RpL.mono e l xs r⟩
  | .dic _ l, _, ⟨a, xs, e1, s, k, r⟩ => ⟨a, xs, e1, same_rd e s, k, RpL.mono e l _ r⟩
  | .obj _ _ l, _, ⟨a, dx, fs, e1, s, k, r⟩ => ⟨a, dx, fs, e1, e _ _ s, k, RpL.mono e l _ r⟩
  | .raw _, _, h => h
  | .scr _, _, ⟨a, e1, s⟩ => ⟨a, e1, same_l e s⟩
  | .clo _ _ _ xs l, _, ⟨h1, h2, h3⟩ => ⟨h1, e _ _ h2, RpL.mono e l xs h3⟩
  | .exv _ _ _ _ l, _, ⟨h1, h2, .inl h3⟩ => ⟨h1, e _ _ h2, .inl h3⟩
  | .exv _ _ _ _ l, _, ⟨h1, h2, .inr ⟨b, ys, h3, h4, h5, h6⟩⟩ => ⟨h1, e _ _ h2, .inr ⟨b, ys, h3, e _ _ h4, h5, RpL.mono e l _ h6⟩⟩
theorem RpL.mono (e : Same F F') : ∀ (ds : List D) (xs : List V), RpL K F ds xs → RpL K F' ds xs
  | [], _, h => h
  | d :: ds, _, ⟨x, r, e1, h, t⟩ => ⟨x, r, e1, Rp.mono e d x h, RpL.mono e ds r t⟩
end
theorem RpL.len : ∀ {ds : List D} {xs : List V}, RpL K F ds xs → ds.length = xs.length
  | [], _, h => by rw [h]; rfl
  | d :: ds, _, ⟨x, r, e1, _, t⟩ => by rw [e1, List.length_cons, List.length_cons, RpL.len t]
theorem RpL.app : ∀ {ds es : List D} {xs ys : List V}, RpL K F ds xs → RpL K F es ys → RpL K F (ds ++ es) (xs ++ ys)
  | [], _, _, _, h, t => by rw [h]; exact t
  | d :: ds, _, _, _, ⟨x, r, e1, h, t⟩, q => by rw [e1]; exact ⟨x, _, rfl, h, RpL.app t q⟩
theorem RpL.get : ∀ {ds : List D} {xs : List V} {i : Nat} {d : D}, RpL K F ds xs → ds[i]? = some d → ∃ x, xs[i]? = some x ∧ Rp K F d x
  | [], _, _, _, _, e => by simp at e
  | d :: ds, _, 0, _, ⟨x, r, e1, h, _⟩, e => by
    have e2 : d = _ := Option.some.inj e
    exact ⟨x, by rw [e1]; rfl, e2 ▸ h⟩
  | d :: ds, _, i + 1, _, ⟨x, r, e1, _, t⟩, e => by
    obtain ⟨y, h1, h2⟩ := RpL.get (i := i) t (by simpa using e)
    exact ⟨y, by rw [e1]; simpa using h1, h2⟩
theorem RpL.get' : ∀ {ds : List D} {xs : List V} {i : Nat} {x : V}, RpL K F ds xs → xs[i]? = some x → ∃ d, ds[i]? = some d ∧ Rp K F d x
  | [], _, _, _, h, e => by rw [h] at e; simp at e
  | d :: ds, _, 0, _, ⟨x, r, e1, h, _⟩, e => by
    rw [e1] at e
    have e2 : x = _ := Option.some.inj e
    exact ⟨d, rfl, e2 ▸ h⟩
  | d :: ds, _, i + 1, _, ⟨x, r, e1, _, t⟩, e => by
    rw [e1] at e
    obtain ⟨y, h1, h2⟩ := RpL.get' (i := i) t (by simpa using e)
    exact ⟨y, by simpa using h1, h2⟩
theorem RpL.drop : ∀ {ds : List D} {xs : List V} (i : Nat), RpL K F ds xs → RpL K F (ds.drop i) (xs.drop i)
  | _, _, 0, h => h
  | [], _, i + 1, h => by rw [h]; exact rfl
  | d :: ds, _, i + 1, ⟨x, r, e1, _, t⟩ => by rw [e1]; exact RpL.drop i t
theorem RpL.take : ∀ {ds : List D} {xs : List V} (i : Nat), RpL K F ds xs → RpL K F (ds.take i) (xs.take i)
  | _, _, 0, h => rfl
  | [], _, i + 1, h => by rw [h]; exact rfl
  | d :: ds, _, i + 1, ⟨x, r, e1, h, t⟩ => by rw [e1]; exact ⟨x, _, rfl, h, RpL.take i t⟩
theorem RpL.set : ∀ {ds : List D} {xs : List V} {d : D} {x : V} (i : Nat), RpL K F ds xs → Rp K F d x → RpL K F (ds.set i d) (xs.set i x)
  | [], _, _, _, _, h, _ => by rw [h]; exact rfl
  | _ :: ds, _, _, _, 0, ⟨x, r, e1, _, t⟩, q => by rw [e1]; exact ⟨_, _, rfl, q, t⟩
  | _ :: ds, _, _, _, i + 1, ⟨x, r, e1, h, t⟩, q => by rw [e1]; exact ⟨x, _, rfl, h, RpL.set i t q⟩
theorem RpL.ints : ∀ {ns : List Int} {xs : List V}, RpL K F (ns.map .int) xs → xs = ns.map V.int
  | [], _, h => h
  | n :: ns, _, ⟨x, r, e1, h, t⟩ => by rw [e1, show x = V.int n from h, RpL.ints t]; rfl
theorem RpL.of_ints : ∀ (ns : List Int), RpL K F (ns.map .int) (ns.map V.int)
  | [] => rfl
  | n :: ns => ⟨_, _, rfl, rfl, RpL.of_ints ns⟩
theorem RpL.bls : ∀ {ns : List Bool} {xs : List V}, RpL K F (ns.map .bl) xs → xs = ns.map V.bl
  | [], _, h => h
  | n :: ns, _, ⟨x, r, e1, h, t⟩ => by rw [e1, show x = V.bl n from h, RpL.bls t]; rfl
end

/-! ## the state -/
/-- what a slot holds: data, or a list that it alone holds (it may still be changed) -/
inductive Sv where
  | val (d : D) | own (l : List D)
/-- things that change: a draw -/
inductive Mo where
  | draw
  /-- a dict, its keys ints, None, bools and tuples of such -/
  | dct (kvs : List (D × D))
  /-- a list -/
  | lst (l : List D)
  /-- a dict with int and text keys -/
  | dik (kvs : List (Key × D))
  /-- an instance of an own class, its attributes -/
  | ins (C : Addr) (fs : List (Str × D))
  /-- a table of code objects, those of the lambdas of the def q -/
  | tab (q : Str)
abbrev Mm := Addr → Option Mo
inductive Ow where
  | slot (i : Nat) | obj (a : Addr) | tmp
abbrev Rho := List (Option Sv)
abbrev Own := Addr → Option Ow
def gt : Rho → Nat → Option Sv
  | [], _ => none
  | x :: _, 0 => x
  | _ :: r, n + 1 => gt r n
def st : Rho → Nat → Sv → Rho
  | [], _, _ => []
  | _ :: r, 0, y => some y :: r
  | x :: r, n + 1, y => x :: st r n y
theorem st_len : ∀ (ρ : Rho) (i : Nat) (y : Sv), (st ρ i y).length = ρ.length
  | [], _, _ => rfl
  | _ :: r, 0, _ => rfl
  | x :: r, n + 1, y => by show (st r n y).length + 1 = _; rw [st_len r n y]; rfl
theorem gt_lt : ∀ {ρ : Rho} {i : Nat} {y : Sv}, gt ρ i = some y → i < ρ.length
  | [], _, _, h => by cases h
  | _ :: r, 0, _, _ => Nat.succ_pos _
  | x :: r, n + 1, y, h => Nat.succ_lt_succ (gt_lt (ρ := r) h)
theorem gt_st_ne : ∀ {ρ : Rho} {i j : Nat} {y : Sv}, j ≠ i → gt (st ρ i y) j = gt ρ j
  | [], _, _, _, _ => rfl
  | _ :: r, 0, 0, _, h => absurd rfl h
  | _ :: r, 0, j + 1, _, _ => rfl
  | x :: r, n + 1, 0, _, _ => rfl
  | x :: r, n + 1, j + 1, y, h => gt_st_ne (ρ := r) fun e => h (by rw [e])
theorem gt_st_self : ∀ {ρ : Rho} {i : Nat} {y z : Sv}, gt (st ρ i y) i = some z → z = y
  | [], _, _, _, h => by cases h
  | _ :: r, 0, _, _, h => (Option.some.inj h).symm
  | x :: r, n + 1, y, z, h => gt_st_self (ρ := r) h

section
variable (K : PySem.W.Frag)
def SvOk (F : Hp) (H : Hp) (O : Own) (i : Nat) : Sv → V → Prop
  | .val d, v => Rp K F d v
  | .own l, v => ∃ p xs, v = .ref p ∧ H p = some (.lst xs) ∧ RpL K F l xs ∧ O p = some (.slot i)
def drawKeys (l : Addr) (c : V) (rest turn mix : Int) : List (Key × V) :=
  [(.inr "large", .ref l), (.inr "cells", c), (.inr "rest", .int rest), (.inr "turn", .int turn), (.inr "mix", .int mix)]
mutual
/-- data as a key -/
def nkOf : D → Option NestedKey
  | .non => some .none
  | .bl b => some (.num (if b = true then 1 else 0))
  | .int i => some (.num i)
  | .tup l => (nkOfL l).map .tup
  | .str _ | .lst _ | .dic _ _ | .obj _ _ _ | .raw _ | .scr _ | .clo _ _ _ _ _ | .exv _ _ _ _ _ => none
def nkOfL : List D → Option (List NestedKey)
  | [] => some []
  | d :: r => match nkOf d, nkOfL r with
    | some a, some b => some (a :: b)
    | _, _ => none
end
mutual
/-- no text within -/
def ntK : NestedKey → Bool
  | .none => true
  | .num _ => true
  | .text _ => false
  | .tup ks => ntKL ks
def ntKL : List NestedKey → Bool
  | [] => true
  | k :: r => ntK k && ntKL r
end
abbrev KEnts := List (NestedKey × Addr × Value)
/-- the dict object at p, by its entries: the keys' own objects stand elsewhere -/
def dkP (p : Addr) (xs : KEnts) (h : Heap) : Prop := (p == sysModules) = false ∧ (∀ x ∈ xs, ntK x.1 = true) ∧ (xs.map (·.1)).Nodup ∧ ∃ o es ep, h.get? p = some o ∧ o.ExactDict ∧ o.data = .dict es ep ∧
  ∀ w : World, es.toList = xs.map fun x => ⟨x.1.hash w, .ref x.2.1, x.2.2⟩
def dkO (p : Addr) (xs : KEnts) : HO := .ext (dkP p xs)
def DRel (F : Hp) : List (D × D) → KEnts → Prop
  | [], xs => xs = []
  | p :: r, xs => ∃ x ys v, xs = x :: ys ∧ nkOf p.1 = some x.1 ∧ x.1.depth ≤ 8 ∧ Rp K F p.1 (.ref x.2.1) ∧ Rp K F p.2 v ∧ RelV v x.2.2 ∧ DRel F r ys
/-- an exception as plain data: its class, its own attributes -/
def ExOk (F : Hp) (d : Option Addr) (fs : List (Str × D)) : Prop :=
  match d with
  | none => fs = []
  | some a => ∃ ys : List (Str × V), F a = some (.xd ys) ∧ ys.map (·.1) = fs.map (·.1) ∧ RpL K F (fs.map (·.2)) (ys.map (·.2))
def MoOk (F : Hp) (H : Hp) (O : Own) (a : Addr) : Mo → Prop
  | .tab q => ∃ ps : Array Value, H a = some (.tbl ps) ∧ O a = some (.obj a) ∧ TriplesOk ps.toList ∧ ∀ (pos : Pos) (cv : Value), codeAmong pos ps.toList = some cv → ∃ c, cv = .ref c ∧ F c = some (LamX.CodeO c q)
  | .dct kvs => ∃ xs, H a = some (dkO a xs) ∧ O a = some (.obj a) ∧ kvs.length ≤ 1000000 ∧ DRel K F kvs xs
  | .lst l => ∃ xs, H a = some (.lst xs) ∧ O a = some (.obj a) ∧ RpL K F l xs
  | .dik kvs => ∃ ys, H a = some (.dK ys) ∧ O a = some (.obj a) ∧ ys.map (·.1) = kvs.map (·.1) ∧ RpL K F (kvs.map (·.2)) (ys.map (·.2))
  | .ins C fs => ∃ dx ys, H a = some (.ins C dx ys) ∧ O a = some (.obj a) ∧ ys.map (·.1) = fs.map (·.1) ∧ RpL K F (fs.map (·.2)) (ys.map (·.2))
  | .draw => ∃ (l : Addr) (big cells : List Int) (c : V) (rest turn mix : Int), H a = some (.dK (drawKeys l c rest turn mix)) ∧ H l = some (.lst (big.map V.int)) ∧ Rp K F (.lst (cells.map .int)) c ∧
      O a = some (.obj a) ∧ O l = some (.obj a) ∧ big.length ≤ 63 ∧ cells.length ≤ 63 ∧ 0 ≤ mix ∧ mix < 2147483629
/-- where a def was entered -/
structure Gh where
  H0 : Hp
  F0 : Hp
  own0 : Addr → Prop
  /-- lists that are being made -/
  tmp : List (Addr × List D) := []
structure Wd (g : Gh) (H : Hp) (M : Mm) (F : Hp) (O : Own) : Prop where
  sub : Same F H
  ext0 : Same g.F0 F
  new : ∀ a o, F a = some o → g.F0 a = some o ∨ g.H0 a = none
  frm : ∀ a o, g.H0 a = some o → ¬ g.own0 a → H a = some o
  thr : ∀ a o, g.H0 a = some o → ∃ o', H a = some o'
  liv : ∀ a o, O a = some o → (∃ x, H a = some x) ∧ F a = none ∧ (g.own0 a ∨ g.H0 a = none)
  slo : ∀ a o, O a = some o → (∀ m, o ≠ .obj m) → g.H0 a = none
  tm : ∀ p l, (p, l) ∈ g.tmp → ∃ xs, H p = some (.lst xs) ∧ RpL K F l xs ∧ O p = some .tmp
  mu : ∀ a mo, M a = some mo → MoOk K F H O a mo
structure Ab (g : Gh) (σ : L2.St) (H : Hp) (ρ : Rho) (M : Mm) (F : Hp) (O : Own) : Prop extends Wd K g H M F O where
  len : ρ.length = σ.length
  sl : ∀ i sv, gt ρ i = some sv → ∃ v, σ[i]? = some (some v) ∧ SvOk K F H O i sv v
end
/-! ## readings over plain data -/
abbrev PQ := D → Mm → Prop
abbrev PX := Value → List (Str × D) → Mm → Prop
abbrev PWi := Value → List (Str × D) → Rho → Mm → Prop
abbrev PTE := PWi → Rho → Mm → PQ → Prop
abbrev PTT := PWi → Rho → Mm → (Bool → Mm → Prop) → Prop
abbrev PTA := PWi → Rho → Mm → (List D → Mm → Prop) → Prop
structure PEnds where
  nx : Rho → Mm → Prop
  rt : D → Mm → Prop
  bk : Rho → Mm → Prop := fun _ _ => False
  ct : Rho → Mm → Prop := fun _ _ => False
  /-- a new list is returned, nobody else's -/
  rl : List D → Mm → Prop := fun _ _ => False
abbrev PTS := PWi → PEnds → Rho → Mm → Prop

def WOk (K : PySem.W.Frag) (g : Gh) (F : Hp) (W : WX) (w : PWi) : Prop :=
  ∀ cls dd σ H ρ M F' O fs, Ab K g σ H ρ M F' O → Same F F' → ExOk K F' dd fs → w cls fs ρ M → W cls dd σ H
theorem WOk.mono {K : PySem.W.Frag} {g : Gh} {F F' : Hp} {W : WX} {w : PWi} (h : WOk K g F W w) (e : Same F F') : WOk K g F' W w :=
  fun cls dd σ H ρ M F2 O fs a s x y => h cls dd σ H ρ M F2 O fs a (e.trans s) x y

def real (K : PySem.W.Frag) (W : WX) (p : PTE) : TE := fun σ H Q => ∃ g ρ M F O q w, Ab K g σ H ρ M F O ∧ p w ρ M q ∧ WOk K g F W w ∧
  ∀ v H' F' O' M' d, Ab K g σ H' ρ M' F' O' → Same F F' → Rp K F' d v → q d M' → Q v H'
def realT (K : PySem.W.Frag) (W : WX) (p : PTT) : TT := fun σ H Q => ∃ g ρ M F O q w, Ab K g σ H ρ M F O ∧ p w ρ M q ∧ WOk K g F W w ∧
  ∀ b H' F' O' M', Ab K g σ H' ρ M' F' O' → Same F F' → q b M' → Q b H'
def realA (K : PySem.W.Frag) (W : WX) (p : PTA) : TA := fun σ H Q => ∃ g ρ M F O q w, Ab K g σ H ρ M F O ∧ p w ρ M q ∧ WOk K g F W w ∧
  ∀ vs H' F' O' M' ds, Ab K g σ H' ρ M' F' O' → Same F F' → RpL K F' ds vs → q ds M' → Q vs H'
def realS (K : PySem.W.Frag) (W : WX) (p : PTS) : TS := fun D σ H => ∃ g ρ M F O P w, Ab K g σ H ρ M F O ∧ p w P ρ M ∧ WOk K g F W w ∧
  (∀ σ' H' ρ' M' F' O', Ab K g σ' H' ρ' M' F' O' → Same F F' → P.nx ρ' M' → D.nx σ' H') ∧
  (∀ v σ' H' ρ' M' F' O' d, Ab K g σ' H' ρ' M' F' O' → Same F F' → Rp K F' d v → P.rt d M' → D.rt v H') ∧
  (∀ σ' H' ρ' M' F' O', Ab K g σ' H' ρ' M' F' O' → Same F F' → P.bk ρ' M' → D.bk σ' H') ∧
  (∀ σ' H' ρ' M' F' O', Ab K g σ' H' ρ' M' F' O' → Same F F' → P.ct ρ' M' → D.ct σ' H') ∧
  (∀ a xs σ' H' ρ' M' F' O' ds, Ab K g σ' H' ρ' M' F' O' → Same F F' → H' a = some (.lst xs) → RpL K F' ds xs → F' a = none → O' a = none → g.H0 a = none → P.rl ds M' → D.rt (.ref a) H')

abbrev DE (X : Cx) (W : WX) (e : Expr) (p : PTE) : Prop := PE X e (real X.K W p)
abbrev DT (X : Cx) (W : WX) (e : Expr) (p : PTT) : Prop := PT X e (realT X.K W p)
abbrev DA (X : Cx) (W : WX) (es : List Expr) (p : PTA) : Prop := PA X es (realA X.K W p)
abbrev DS (X : Cx) (W : WX) (s : Stmt) (p : PTS) : Prop := PS X s (realS X.K W p)
abbrev DSs (X : Cx) (W : WX) (s : List Stmt) (p : PTS) : Prop := PSs X s (realS X.K W p)
section
variable {X : Cx} {e : Expr} {t t' : TE} {es : List Expr} {s : Stmt} {ss : List Stmt}
theorem pe_imp (h : PE X e t) (i : ∀ σ H Q, t' σ H Q → t σ H Q) : PE X e t' := ⟨fun pins s σ H Q I hw => h.run pins s σ H Q I (i σ H Q hw)⟩
theorem pt_imp {t t' : TT} (h : PT X e t) (i : ∀ σ H Q, t' σ H Q → t σ H Q) : PT X e t' := ⟨fun pins s σ H Q I hw => h.run pins s σ H Q I (i σ H Q hw)⟩
theorem pw_imp {t t' : TT} (h : L2.PW X e t) (i : ∀ σ H Q, t' σ H Q → t σ H Q) : L2.PW X e t' := ⟨fun wh pins s σ H Q I hw => h.run wh pins s σ H Q I (i σ H Q hw)⟩
theorem pa_imp {t t' : TA} (h : PA X es t) (i : ∀ σ H Q, t' σ H Q → t σ H Q) : PA X es t' := ⟨fun pos pins s σ H Q I hw => h.run pos pins s σ H Q I (i σ H Q hw)⟩
theorem ps_imp {t t' : TS} (h : PS X s t) (i : ∀ D σ H, t' D σ H → t D σ H) : PS X s t' := ⟨fun pins s σ H D I hw => h.run pins s σ H D I (i D σ H hw)⟩
theorem pss_imp {t t' : TS} (h : PSs X ss t) (i : ∀ D σ H, t' D σ H → t D σ H) : PSs X ss t' := ⟨fun pins s σ H D I hw => h.run pins s σ H D I (i D σ H hw)⟩
end
end Px

set_option Elab.async false
set_option linter.all false
set_option maxRecDepth 100000
namespace Px
open PySem PySem.Spec PyProof.Rows L2

/-! ## how the state goes on -/
section
variable {K : PySem.W.Frag} {g : Gh} {σ : L2.St} {H H' : Hp} {ρ : Rho} {M : Mm} {F F' : Hp} {O O' : Own} {a p : Addr} {o : HO} {i : Nat}
theorem SvOk.mono {sv : Sv} {v : V} (e : Same F F') (k : ∀ p xs, H p = some (.lst xs) → O p = some (.slot i) → H' p = some (.lst xs) ∧ O' p = some (.slot i)) (h : SvOk K F H O i sv v) : SvOk K F' H' O' i sv v := by
  cases sv with
  | val d => exact Rp.mono e d v h
  | own l =>
    obtain ⟨p, xs, e1, e2, r, e3⟩ := h
    obtain ⟨k1, k2⟩ := k p xs e2 e3
    exact ⟨p, xs, e1, k1, RpL.mono e l xs r, k2⟩
theorem DRel.mono (e : Same F F') : ∀ (kvs : List (D × D)) (xs : KEnts), DRel K F kvs xs → DRel K F' kvs xs
  | [], _, h => h
  | p :: r, _, ⟨x, ys, v, e1, e2, e3, e4, e5, e6, e7⟩ => ⟨x, ys, v, e1, e2, e3, Rp.mono e _ _ e4, Rp.mono e _ _ e5, e6, DRel.mono e r ys e7⟩
theorem ExOk.mono {d : Option Addr} {fs : List (Str × D)} (e : Same F F') (h : ExOk K F d fs) : ExOk K F' d fs := by
  cases d with
  | none => exact h
  | some a =>
    obtain ⟨ys, h1, h2, h3⟩ := h
    exact ⟨ys, e _ _ h1, h2, RpL.mono e _ _ h3⟩
theorem MoOk.mono {mo : Mo} (e : Same F F') (k : ∀ p u, H p = some u → O p = some (.obj a) → H' p = some u ∧ O' p = some (.obj a)) (h : MoOk K F H O a mo) : MoOk K F' H' O' a mo := by
  cases mo with
  | dct kvs =>
    obtain ⟨xs, h1, h2, h3, h4⟩ := h
    exact ⟨xs, (k _ _ h1 h2).1, (k _ _ h1 h2).2, h3, DRel.mono e _ _ h4⟩
  | lst l =>
    obtain ⟨xs, h1, h2, h3⟩ := h
    exact ⟨xs, (k _ _ h1 h2).1, (k _ _ h1 h2).2, RpL.mono e _ _ h3⟩
  | dik kvs =>
    obtain ⟨ys, h1, h2, h3, h4⟩ := h
    exact ⟨ys, (k _ _ h1 h2).1, (k _ _ h1 h2).2, h3, RpL.mono e _ _ h4⟩
  | ins C fs =>
    obtain ⟨dx, ys, h1, h2, h3, h4⟩ := h
    exact ⟨dx, ys, (k _ _ h1 h2).1, (k _ _ h1 h2).2, h3, RpL.mono e _ _ h4⟩
  | tab q =>
    obtain ⟨ps, h1, h2, h3, h4⟩ := h
    refine ⟨ps, (k _ _ h1 h2).1, (k _ _ h1 h2).2, h3, fun pos cv hc => ?_⟩
    obtain ⟨c, e1, e2⟩ := h4 pos cv hc
    exact ⟨c, e1, e _ _ e2⟩
  | draw =>
    obtain ⟨l, big, cells, c, rest, turn, mix, h1, h2, h3, h4, h5, h6⟩ := h
    exact ⟨l, big, cells, c, rest, turn, mix, (k _ _ h1 h4).1, (k _ _ h2 h5).1, Rp.mono e _ _ h3, (k _ _ h1 h4).2, (k _ _ h2 h5).2, h6⟩
theorem Wd.g0 (A : Wd K g H M F O) (h : H p = none) : g.H0 p = none := by
  cases e : g.H0 p with
  | none => rfl
  | some o =>
    obtain ⟨o', z⟩ := A.thr p o e
    rw [h] at z
    cases z
theorem Wd.f0 (A : Wd K g H M F O) (h : H p = none) : F p = none := by
  cases e : F p with
  | none => rfl
  | some o => rw [A.sub p o e] at h; cases h
theorem Wd.o0 (A : Wd K g H M F O) (h : H p = none) : O p = none := by
  cases e : O p with
  | none => rfl
  | some o =>
    obtain ⟨⟨x, z⟩, _⟩ := A.liv p o e
    rw [h] at z
    cases z
theorem MoOk.at {mo : Mo} {p : Addr} (h : MoOk K F H O p mo) : ∃ u, H p = some u := by
  cases mo with
  | draw => obtain ⟨_, _, _, _, _, _, _, q1, _⟩ := h; exact ⟨_, q1⟩
  | dct kvs => obtain ⟨_, q1, _⟩ := h; exact ⟨_, q1⟩
  | lst l => obtain ⟨_, q1, _⟩ := h; exact ⟨_, q1⟩
  | dik kvs => obtain ⟨_, q1, _⟩ := h; exact ⟨_, q1⟩
  | ins C fs => obtain ⟨_, _, q1, _⟩ := h; exact ⟨_, q1⟩
  | tab q => obtain ⟨_, q1, _⟩ := h; exact ⟨_, q1⟩
theorem Wd.m0 (A : Wd K g H M F O) (h : H p = none) : M p = none := by
  cases z : M p with
  | none => rfl
  | some mo =>
    obtain ⟨u, e⟩ := (A.mu p mo z).at
    rw [h] at e; cases e
/-- a new object, tracked, not yet anybody's -/
theorem Ab.laid (A : Ab K g σ H ρ M F O) (h : H p = none) : Ab K g σ (upd H p o) ρ M F O := by
  have ne : ∀ b u, H b = some u → b ≠ p := fun b u e z => by rw [z, h] at e; cases e
  have up : ∀ b u, H b = some u → upd H p o b = some u := fun b u e => by rw [upd_ne (ne b u e)]; exact e
  exact { sub := fun b u e => up b u (A.sub b u e), ext0 := A.ext0, new := A.new, frm := fun b u e n => up b u (A.frm b u e n), thr := fun b u e => by
            obtain ⟨o', z⟩ := A.thr b u e
            exact ⟨o', up b o' z⟩
          liv := fun b u e => by
            obtain ⟨⟨x, z⟩, r⟩ := A.liv b u e
            exact ⟨⟨x, up b x z⟩, r⟩
          slo := A.slo, tm := fun q l e => by
            obtain ⟨xs, e1, e2, e3⟩ := A.tm q l e
            exact ⟨xs, up q _ e1, e2, e3⟩
          mu := fun b mo e => (A.mu b mo e).mono (Same.refl F) fun q u e1 e2 => ⟨up q u e1, e2⟩, len := A.len, sl := fun j sv e => by
            obtain ⟨v, e1, r⟩ := A.sl j sv e
            exact ⟨v, e1, r.mono (Same.refl F) fun q xs e1 e2 => ⟨up q _ e1, e2⟩⟩ }
theorem same_new (h : F p = none) : Same F (upd F p o) := fun b u e => by
  rw [upd_ne (fun z => by rw [z, h] at e; cases e)]
  exact e
/-- a tracked object that is nobody's stays as it is from now on -/
theorem Ab.freeze (A : Ab K g σ H ρ M F O) (h : H p = some o) (hF : F p = none) (hO : O p = none) (h0 : g.H0 p = none) : Ab K g σ H ρ M (upd F p o) O := by
  have s : Same F (upd F p o) := same_new hF
  exact { sub := fun b u e => by
            by_cases z : b = p
            · subst z; rw [upd_same] at e; rw [h]; exact e
            · rw [upd_ne z] at e; exact A.sub b u e
          ext0 := A.ext0.trans s, new := fun b u e => by
            by_cases z : b = p
            · subst z; exact .inr h0
            · rw [upd_ne z] at e; exact A.new b u e
          frm := A.frm, thr := A.thr, liv := fun b u e => by
            obtain ⟨r1, r2, r3⟩ := A.liv b u e
            refine ⟨r1, ?_, r3⟩
            rw [upd_ne (fun z => by rw [z, hO] at e; cases e)]
            exact r2
          slo := A.slo, tm := fun q l e => by
            obtain ⟨xs, e1, e2, e3⟩ := A.tm q l e
            exact ⟨xs, e1, RpL.mono s _ _ e2, e3⟩
          mu := fun b mo e => (A.mu b mo e).mono s fun q u e1 e2 => ⟨e1, e2⟩, len := A.len, sl := fun j sv e => by
            obtain ⟨v, e1, r⟩ := A.sl j sv e
            exact ⟨v, e1, r.mono s fun q xs e1 e2 => ⟨e1, e2⟩⟩ }
/-- a new object that stays as it is -/
theorem Ab.lay (A : Ab K g σ H ρ M F O) (h : H p = none) : Ab K g σ (upd H p o) ρ M (upd F p o) O :=
  (A.laid h).freeze upd_same (A.f0 h) (A.o0 h) (A.g0 h)
theorem Ab.gt_lt (A : Ab K g σ H ρ M F O) {sv : Sv} (e : gt ρ i = some sv) : i < σ.length := by
  rw [← A.len]
  exact Px.gt_lt e
theorem set_same {x : V} (h : i < σ.length) : (σ.set i (some x))[i]? = some (some x) := List.getElem?_set_self h
theorem gt_st_lt {sv y : Sv} (e : gt (st ρ i y) i = some sv) : i < ρ.length := by rw [← st_len ρ i y]; exact Px.gt_lt e
/-- a slot is given data -/
theorem Ab.put {d : D} {v : V} (A : Ab K g σ H ρ M F O) (r : Rp K F d v) : Ab K g (σ.set i (some v)) H (st ρ i (.val d)) M F O :=
  { toWd := A.toWd, len := by rw [st_len, List.length_set]; exact A.len, sl := fun j sv e => by
      by_cases z : j = i
      · subst z
        have e2 := gt_st_self e
        subst e2
        exact ⟨v, set_same (by rw [← A.len]; exact gt_st_lt e), r⟩
      · rw [gt_st_ne z] at e
        obtain ⟨u, e1, q⟩ := A.sl j sv e
        exact ⟨u, by rw [List.getElem?_set_ne (Ne.symm z)]; exact e1, q⟩ }
/-- a slot is given a list of its own, that is nobody's -/
theorem Ab.putOwn {l : List D} {xs : List V} (A : Ab K g σ H ρ M F O) (h : H p = some (.lst xs)) (r : RpL K F l xs) (hF : F p = none) (hO : O p = none) (h0 : g.H0 p = none) :
    Ab K g (σ.set i (some (.ref p))) H (st ρ i (.own l)) M F (fun b => if b = p then some (.slot i) else O b) := by
  have keep : ∀ b u, O b = some u → (if b = p then some (Ow.slot i) else O b) = some u := fun b u e => by rw [if_neg (fun z => by rw [z, hO] at e; cases e)]; exact e
  exact { sub := A.sub, ext0 := A.ext0, new := A.new, frm := A.frm, thr := A.thr
          liv := fun b u e => by
            by_cases z : b = p
            · subst z; exact ⟨⟨_, h⟩, hF, .inr h0⟩
            · rw [if_neg z] at e; exact A.liv b u e
          slo := fun b j e n => by
            by_cases z : b = p
            · subst z; exact h0
            · rw [if_neg z] at e; exact A.slo b j e n
          tm := fun q l e => by
            obtain ⟨xs, e1, e2, e3⟩ := A.tm q l e
            exact ⟨xs, e1, e2, keep q _ e3⟩
          mu := fun b mo e => (A.mu b mo e).mono (Same.refl F) fun q u e1 e2 => ⟨e1, keep q _ e2⟩
          len := by rw [st_len, List.length_set]; exact A.len
          sl := fun j sv e => by
            by_cases z : j = i
            · subst z
              have e2 := gt_st_self e
              subst e2
              exact ⟨.ref p, set_same (by rw [← A.len]; exact gt_st_lt e), p, xs, rfl, h, r, if_pos rfl⟩
            · rw [gt_st_ne z] at e
              obtain ⟨u, e1, q⟩ := A.sl j sv e
              exact ⟨u, by rw [List.getElem?_set_ne (Ne.symm z)]; exact e1, q.mono (Same.refl F) fun q xs e1 e2 => ⟨e1, keep q _ e2⟩⟩ }
/-- a slot's own list is changed -/
theorem Ab.chg {l l' : List D} {xs ys : List V} (A : Ab K g σ H ρ M F O) (hi : gt ρ i = some (.own l)) (hp : σ[i]? = some (some (.ref p))) (hO : O p = some (.slot i)) (r : RpL K F l' ys) :
    Ab K g σ (upd H p (.lst ys)) (st ρ i (.own l')) M F O := by
  have ne : ∀ b u, O b = some u → u ≠ .slot i → b ≠ p := fun b u e n z => by rw [z, hO] at e; exact n (Option.some.inj e).symm
  obtain ⟨⟨ox, hx⟩, hF, _⟩ := A.liv p _ hO
  exact { sub := fun b u e => by rw [upd_ne (fun z => by rw [z, hF] at e; cases e)]; exact A.sub b u e
          ext0 := A.ext0, new := A.new
          frm := fun b u e n => by rw [upd_ne (fun z => by rw [z, A.slo p _ hO (fun _ z => by cases z)] at e; cases e)]; exact A.frm b u e n
          thr := fun b u e => by rw [upd_ne (fun z => by rw [z, A.slo p _ hO (fun _ z => by cases z)] at e; cases e)]; exact A.thr b u e
          liv := fun b u e => by
            obtain ⟨r1, r2⟩ := A.liv b u e
            refine ⟨?_, r2⟩
            by_cases z : b = p
            · subst z; exact ⟨_, upd_same⟩
            · rw [upd_ne z]; exact r1
          slo := A.slo
          tm := fun q l e => by
            obtain ⟨xs, e1, e2, e3⟩ := A.tm q l e
            exact ⟨xs, by rw [upd_ne (ne q _ e3 (fun z => by cases z))]; exact e1, e2, e3⟩
          mu := fun b mo e => (A.mu b mo e).mono (Same.refl F) fun q u e1 e2 => ⟨by rw [upd_ne (ne q _ e2 (fun z => by cases z))]; exact e1, e2⟩
          len := by rw [st_len]; exact A.len
          sl := fun j sv e => by
            by_cases z : j = i
            · subst z
              have e2 := gt_st_self e
              subst e2
              exact ⟨.ref p, hp, p, ys, rfl, upd_same, r, hO⟩
            · rw [gt_st_ne z] at e
              obtain ⟨u, e1, q⟩ := A.sl j sv e
              exact ⟨u, e1, q.mono (Same.refl F) fun q xs e1 e2 => ⟨by rw [upd_ne (ne q _ e2 (fun y => z (by cases y; rfl)))]; exact e1, e2⟩⟩ }
/-- a slot's own list stays as it is from now on -/
theorem Ab.frz {l : List D} (A : Ab K g σ H ρ M F O) (hi : gt ρ i = some (.own l)) : ∃ F' O', Ab K g σ H (st ρ i (.val (.lst l))) M F' O' ∧ Same F F' := by
  obtain ⟨v, hv, p, xs, rfl, hp, r, hO⟩ := A.sl i _ hi
  obtain ⟨_, hF, _⟩ := A.liv p _ hO
  have s : Same F (upd F p (.lst xs)) := same_new hF
  have ne : ∀ b u, O b = some u → u ≠ .slot i → b ≠ p := fun b u e n z => by rw [z, hO] at e; exact n (Option.some.inj e).symm
  refine ⟨upd F p (.lst xs), fun b => if b = p then none else O b, ?_, s⟩
  exact { sub := fun b u e => by
            by_cases z : b = p
            · subst z; rw [upd_same] at e; rw [hp]; exact e
            · rw [upd_ne z] at e; exact A.sub b u e
          ext0 := A.ext0.trans s
          new := fun b u e => by
            by_cases z : b = p
            · subst z; exact .inr (A.slo _ _ hO (fun _ z => by cases z))
            · rw [upd_ne z] at e; exact A.new b u e
          frm := A.frm, thr := A.thr
          liv := fun b u e => by
            by_cases z : b = p
            · rw [if_pos z] at e; cases e
            · rw [if_neg z] at e
              obtain ⟨r1, r2, r3⟩ := A.liv b u e
              exact ⟨r1, by rw [upd_ne z]; exact r2, r3⟩
          slo := fun b j e n => by
            by_cases z : b = p
            · rw [if_pos z] at e; cases e
            · rw [if_neg z] at e; exact A.slo b j e n
          tm := fun q l e => by
            obtain ⟨xs, e1, e2, e3⟩ := A.tm q l e
            exact ⟨xs, e1, RpL.mono s _ _ e2, by rw [if_neg (ne q _ e3 (fun z => by cases z))]; exact e3⟩
          mu := fun b mo e => (A.mu b mo e).mono s fun q u e1 e2 => ⟨e1, by rw [if_neg (ne q _ e2 (fun z => by cases z))]; exact e2⟩
          len := by rw [st_len]; exact A.len
          sl := fun j sv e => by
            by_cases z : j = i
            · subst z
              have e2 := gt_st_self e
              subst e2
              exact ⟨.ref p, hv, p, xs, rfl, upd_same, RpL.mono s l xs r⟩
            · rw [gt_st_ne z] at e
              obtain ⟨u, e1, q⟩ := A.sl j sv e
              exact ⟨u, e1, q.mono s fun q xs e1 e2 => ⟨e1, by rw [if_neg (ne q _ e2 (fun y => z (by cases y; rfl)))]; exact e2⟩⟩ }
end

/-! ## what may be looked at: data, or a slot's own list -/
def Vw (K : PySem.W.Frag) (σ : L2.St) (ρ : Rho) (F : Hp) (d : D) (v : V) : Prop :=
  Rp K F d v ∨ ∃ i l p, gt ρ i = some (.own l) ∧ σ[i]? = some (some (.ref p)) ∧ v = .ref p ∧ d = .lst l
section
variable {K : PySem.W.Frag} {g : Gh} {σ : L2.St} {H : Hp} {ρ : Rho} {M : Mm} {F F' : Hp} {O : Own} {d : D} {v : V}
theorem Vw.mono (e : Same F F') (h : Vw K σ ρ F d v) : Vw K σ ρ F' d v := h.elim (fun h => .inl (Rp.mono e d v h)) .inr
theorem Vw.int {i : Int} (h : Vw K σ ρ F (.int i) v) : v = .int i := by
  rcases h with h | ⟨_, _, _, _, _, _, h⟩
  · exact h
  · cases h
theorem Vw.bl {i : Bool} (h : Vw K σ ρ F (.bl i) v) : v = .bl i := by
  rcases h with h | ⟨_, _, _, _, _, _, h⟩
  · exact h
  · cases h
theorem Vw.str {i : Str} (h : Vw K σ ρ F (.str i) v) : v = .str i := by
  rcases h with h | ⟨_, _, _, _, _, _, h⟩
  · exact h
  · cases h
theorem Vw.non (h : Vw K σ ρ F .non v) : v = .non := by
  rcases h with h | ⟨_, _, _, _, _, _, h⟩
  · exact h
  · cases h
theorem Vw.lst {l : List D} (A : Ab K g σ H ρ M F O) (h : Vw K σ ρ F (.lst l) v) : ∃ a xs, v = .ref a ∧ H a = some (.lst xs) ∧ RpL K F l xs := by
  rcases h with ⟨a, xs, e, s, r⟩ | ⟨i, l', p, h1, h2, h3, h4⟩
  · exact ⟨a, xs, e, A.sub _ _ s, r⟩
  · cases h4
    obtain ⟨u, e1, q, xs, e2, e3, r, e4⟩ := A.sl i _ h1
    rw [h2] at e1
    cases e1
    cases e2
    exact ⟨p, xs, h3, e3, r⟩
theorem Vw.scr {l : List Int} (A : Ab K g σ H ρ M F O) (h : Vw K σ ρ F (.scr l) v) : ∃ a, v = .ref a ∧ SqL K H a (l.map V.int) := by
  rcases h with ⟨a, e, s⟩ | ⟨_, _, _, _, _, _, h⟩
  · exact ⟨a, e, same_l A.sub s⟩
  · cases h
theorem Vw.tupF {l : List D} (h : Vw K σ ρ F (.tup l) v) : ∃ a xs, v = .ref a ∧ SqT K F a xs ∧ RpL K F l xs := by
  rcases h with h | ⟨_, _, _, _, _, _, h⟩
  · exact h
  · cases h
theorem Vw.tup {l : List D} (A : Ab K g σ H ρ M F O) (h : Vw K σ ρ F (.tup l) v) : ∃ a xs, v = .ref a ∧ SqT K H a xs ∧ RpL K F l xs := by
  rcases h with ⟨a, xs, e, s, r⟩ | ⟨_, _, _, _, _, _, h⟩
  · exact ⟨a, xs, e, same_t A.sub s, r⟩
  · cases h
end

/-- an expression that is looked at -/
def realO (K : PySem.W.Frag) (W : WX) (p : PTE) : TE := fun σ H Q => ∃ g ρ M F O q w, Ab K g σ H ρ M F O ∧ p w ρ M q ∧ WOk K g F W w ∧
  ∀ v H' F' O' M' d, Ab K g σ H' ρ M' F' O' → Same F F' → Vw K σ ρ F' d v → q d M' → Q v H'
abbrev DO (X : Cx) (W : WX) (e : Expr) (p : PTE) : Prop := PE X e (realO X.K W p)
/-- an expression that makes a new list -/
def realL (K : PySem.W.Frag) (W : WX) (p : PTA) : TE := fun σ H Q => ∃ g ρ M F O q w, Ab K g σ H ρ M F O ∧ p w ρ M q ∧ WOk K g F W w ∧
  ∀ a xs H' F' O' M' ds, Ab K g σ H' ρ M' F' O' → Same F F' → H' a = some (.lst xs) → RpL K F' ds xs → F' a = none → O' a = none → g.H0 a = none → q ds M' → Q (.ref a) H'
abbrev DL (X : Cx) (W : WX) (e : Expr) (p : PTA) : Prop := PE X e (realL X.K W p)
def dL (p : PTA) : PTE := fun w ρ M q => p w ρ M fun ds M' => q (.lst ds) M'

section
variable {X : Cx} {W : WX} {a b c e : Expr} {es : List Expr} {pa pb pc : PTE} {pl : PTA} {pos : Pos}
theorem do_of (h : DE X W e pa) : DO X W e pa := pe_imp h fun σ H Q ⟨g, ρ, M, F, O, q, w, A, p, hw, k⟩ =>
  ⟨g, ρ, M, F, O, q, w, A, p, hw, fun v H' F' O' M' d A' s r q => k v H' F' O' M' d A' s (.inl r) q⟩
theorem de_l (h : DL X W e pl) : DE X W e (dL pl) := pe_imp h fun σ H Q ⟨g, ρ, M, F, O, q, w, A, p, hw, k⟩ =>
  ⟨g, ρ, M, F, O, _, w, A, p, hw, fun a xs H' F' O' M' ds A' s hH r hF hO h0 q =>
    have s2 : Same F' (upd F' a (.lst xs)) := same_new hF
    k (.ref a) H' _ O' M' (.lst ds) (A'.freeze hH hF hO h0) (s.trans s2) ⟨a, xs, rfl, upd_same, RpL.mono s2 ds xs r⟩ q⟩
theorem do_l (h : DL X W e pl) : DO X W e (dL pl) := do_of (de_l h)

/-! ### names, constants -/
def dVar (i : Nat) : PTE := fun _ ρ M q => match gt ρ i with | some (.val d) => q d M | _ => False
def dOwn (i : Nat) : PTE := fun _ ρ M q => match gt ρ i with | some (.val d) => q d M | some (.own l) => q (.lst l) M | _ => False
theorem dv (i : Nat) {x : Str} {pos : Pos} (hN : X.N[i]? = some x := by rfl) (hv : Vis X.env.scope x := by first | exact Or.inl rfl | exact Or.inr (Or.inl rfl) | exact Or.inr (Or.inr rfl)) (hd : (x == ("__debug__" : Str)) = false := by decide)
    (hcd : (x == ("__classdict__" : Str)) = false := by decide) : DE X W (.Name x pos) (dVar i) := pe_imp (pv i hN hv hd hcd) fun σ H Q ⟨g, ρ, M, F, O, q, w, A, p, hw, k⟩ => by
  unfold dVar at p
  split at p
  · rename_i d e
    obtain ⟨v, e1, r⟩ := A.sl i _ e
    exact ⟨v, e1, k v H F O M d A (Same.refl F) r p⟩
  · exact p.elim
/-- a name that is looked at: its slot may hold a list of its own -/
theorem dn (i : Nat) {x : Str} {pos : Pos} (hN : X.N[i]? = some x := by rfl) (hv : Vis X.env.scope x := by first | exact Or.inl rfl | exact Or.inr (Or.inl rfl) | exact Or.inr (Or.inr rfl)) (hd : (x == ("__debug__" : Str)) = false := by decide)
    (hcd : (x == ("__classdict__" : Str)) = false := by decide) : DO X W (.Name x pos) (dOwn i) := pe_imp (pv i hN hv hd hcd) fun σ H Q ⟨g, ρ, M, F, O, q, w, A, p, hw, k⟩ => by
  unfold dOwn at p
  split at p
  · rename_i d e
    obtain ⟨v, e1, r⟩ := A.sl i _ e
    exact ⟨v, e1, k v H F O M d A (Same.refl F) (.inl r) p⟩
  · rename_i l e
    obtain ⟨v, e1, a, xs, rfl, h2, r, h3⟩ := A.sl i _ e
    exact ⟨.ref a, e1, k (.ref a) H F O M (.lst l) A (Same.refl F) (.inr ⟨i, l, a, e, e1, rfl, rfl⟩) p⟩
  · exact p.elim
def dC (d : D) : PTE := fun _ _ M q => q d M
theorem dc_of {v : V} {d : D} (h : PE X e (tC v)) (hr : ∀ F, Rp X.K F d v) : DE X W e (dC d) := pe_imp h fun σ H Q ⟨g, ρ, M, F, O, q, w, A, p, hw, k⟩ => k v H F O M d A (Same.refl F) (hr F) p
theorem de_int {i : Int} {j : Nat} : DE X W (.Constant (.int i) j pos) (dC (.int i)) := dc_of pe_int fun _ => rfl
theorem de_bl {i : Bool} {j : Nat} : DE X W (.Constant (.bool i) j pos) (dC (.bl i)) := dc_of pe_bl fun _ => rfl
theorem de_non {j : Nat} : DE X W (.Constant .none j pos) (dC .non) := dc_of pe_non fun _ => rfl
theorem de_str {x : Str} {j : Nat} : DE X W (.Constant (.str x) j pos) (dC (.str x)) := dc_of pe_str fun _ => rfl
/-- a module's constant that is an int -/
theorem de_gint {x : Str} {i : Int} {t : Tok} (hg : Gl X x) (hm : X.mg x = some (.int i t)) (hd : (x == ("__debug__" : Str)) = false := by decide) : DE X W (.Name x pos) (dC (.int i)) := dc_of (v := .int i) (pe_glob hg hm (show RelV (.int i) _ from ⟨t, rfl⟩) hd) fun _ => rfl
theorem de_gstr {x y : Str} {t : Tok} (hg : Gl X x) (hm : X.mg x = some (.str y t)) (hd : (x == ("__debug__" : Str)) = false := by decide) : DE X W (.Name x pos) (dC (.str y)) := dc_of (v := .str y) (pe_glob hg hm (show RelV (.str y) _ from ⟨t, rfl⟩) hd) fun _ => rfl

/-! ### operators -/
abbrev F2 := D → D → (D → Prop) → Prop
def OpF (K : PySem.W.Frag) (r : R2) (f : F2) : Prop := ∀ g σ H ρ M F O x y v u (k : D → Prop) (Q : VK), Ab K g σ H ρ M F O → Vw K σ ρ F x v → Vw K σ ρ F y u → f x y k →
  (∀ z w H' F' O', Ab K g σ H' ρ M F' O' → Same F F' → Rp K F' z w → k z → Q w H') → r v u H Q
def dOp (f : F2) (pa pb : PTE) : PTE := fun w ρ M q => pa w ρ M fun x M1 => pb w ρ M1 fun y M2 => f x y fun z => q z M2
theorem op_run {r : R2} {f : F2} (hf : OpF X.K r f) {σ : L2.St} {H : Hp} {Q : VK} (h : real X.K W (dOp f pa pb) σ H Q) : tOp r (realO X.K W pa) (realO X.K W pb) σ H Q := by
  obtain ⟨g, ρ, M, F, O, q, w, A, p, hw, k⟩ := h
  exact ⟨g, ρ, M, F, O, _, w, A, p, hw, fun v H1 F1 O1 M1 d A1 s1 r1 q1 => ⟨g, ρ, M1, F1, O1, _, w, A1, q1, hw.mono s1, fun u H2 F2 O2 M2 e A2 s2 r2 q2 =>
    hf g σ H2 ρ M2 F2 O2 d e v u _ Q A2 (r1.mono s2) r2 q2 fun z w3 H3 F3 O3 A3 s3 r3 q3 => k w3 H3 F3 O3 M2 z A3 ((s1.trans s2).trans s3) r3 q3⟩⟩
theorem de_op {op : Operator} {r : R2} {f : F2} (ho : OpR X (binaryOp op) r) (hf : OpF X.K r f) (ha : DO X W a pa) (hb : DO X W b pb) : DE X W (.BinOp a op b pos) (dOp f pa pb) := pe_imp (pe_op ho ha hb) fun σ H Q h => op_run hf h
theorem de_cmp {op : CmpOp} {r : R2} {f : F2} (ho : OpR X (compareOp op) r) (hf : OpF X.K r f) (ha : DO X W a pa) (hb : DO X W b pb) (hm : behindInMarks op b = false) : DE X W (.Compare a [op] [b] pos) (dOp f pa pb) := pe_imp (pe_cmpR ho ha hb hm) fun σ H Q h => op_run hf h
def isB (d : D) (k : Bool → Prop) : Prop := match d with | .bl b => k b | _ => False
def dTst (p : PTE) : PTT := fun w ρ M q => p w ρ M fun d M' => isB d fun b => q b M'
theorem isB_run {F : Hp} {K : PySem.W.Frag} {d : D} {v : V} {k : Bool → Prop} (r : Rp K F d v) (h : isB d k) : ∃ b, v = .bl b ∧ k b := by
  unfold isB at h
  split at h
  · exact ⟨_, r, h⟩
  · exact h.elim
theorem tst_run {t : TE} {p : PTE} (h : ∀ σ H Q, real X.K W p σ H Q → t σ H Q) {σ : L2.St} {H : Hp} {Q : Bool → Hp → Prop} (hh : realT X.K W (dTst p) σ H Q) : tTest t σ H Q := by
  obtain ⟨g, ρ, M, F, O, q, w, A, p, hw, k⟩ := hh
  refine h σ H _ ⟨g, ρ, M, F, O, _, w, A, p, hw, fun v H1 F1 O1 M1 d A1 s1 r1 q1 => ?_⟩
  obtain ⟨b, e, q2⟩ := isB_run r1 q1
  exact ⟨b, e, k b H1 F1 O1 M1 A1 s1 q2⟩
theorem dt_cmp {op : CmpOp} {r : R2} {f : F2} (ho : OpR X (compareOp op) r) (hf : OpF X.K r f) (ha : DO X W a pa) (hb : DO X W b pb) (hm : behindInMarks op b = false) : DT X W (.Compare a [op] [b] pos) (dTst (dOp f pa pb)) :=
  pt_imp (pt_cmpR ho ha hb hm) fun σ H Q h => tst_run (t := tOp r (realO X.K W pa) (realO X.K W pb)) (fun _ _ _ h => op_run hf h) h
/-- any other expression whose value is a bool, as a test -/
theorem dt_val (h : DE X W e pa) (he : ∀ whole, isTrue e X.env whole = (do let v ← whole; standAt e.pos; holding [v] (truthy v)) := by intro _; rfl) : DT X W e (dTst pa) := pt_imp (pt_val h he) fun σ H Q hh => tst_run (t := real X.K W pa) (fun _ _ _ h => h) hh
/-- a op1 b op2 c -/
def dChain (f f' : F2) (pa pb pc : PTE) : PTE := fun w ρ M q => pa w ρ M fun x M1 => pb w ρ M1 fun y M2 => f x y fun z => isB z fun k => if k = true then pc w ρ M2 fun u M3 => f' y u fun z => q z M3 else q (.bl false) M2
theorem chain_run {r r' : R2} {f f' : F2} (hf : OpF X.K r f) (hf' : OpF X.K r' f') {σ : L2.St} {H : Hp} {Q : VK} (h : real X.K W (dChain f f' pa pb pc) σ H Q) : tChain r r' (realO X.K W pa) (realO X.K W pb) (realO X.K W pc) σ H Q := by
  obtain ⟨g, ρ, M, F, O, q, w, A, p, hw, k⟩ := h
  refine ⟨g, ρ, M, F, O, _, w, A, p, hw, fun v H1 F1 O1 M1 d A1 s1 r1 q1 => ⟨g, ρ, M1, F1, O1, _, w, A1, q1, hw.mono s1, fun u H2 F2 O2 M2 e A2 s2 r2 q2 =>
    hf g σ H2 ρ M2 F2 O2 d e v u _ _ A2 (r1.mono s2) r2 q2 fun z w3 H3 F3 O3 A3 s3 r3 q3 => ?_⟩⟩
  obtain ⟨b, eb, q4⟩ := isB_run r3 q3
  refine ⟨b, eb, ?_⟩
  cases b with
  | true =>
    exact ⟨g, ρ, M2, F3, O3, _, w, A3, q4, hw.mono ((s1.trans s2).trans s3), fun u4 H4 F4 O4 M4 e4 A4 s4 r4 q5 =>
      hf' g σ H4 ρ M4 F4 O4 e e4 u u4 _ Q A4 (r2.mono (s3.trans s4)) r4 q5 fun z5 w5 H5 F5 O5 A5 s5 r5 q5 => k w5 H5 F5 O5 M4 z5 A5 ((((s1.trans s2).trans s3).trans s4).trans s5) r5 q5⟩
  | false => exact k (.bl false) H3 F3 O3 M2 (.bl false) A3 ((s1.trans s2).trans s3) rfl q4
theorem de_chain {op op' : CmpOp} {r r' : R2} {f f' : F2} (ho : OpR X (compareOp op) r) (hf : OpF X.K r f) (ho' : OpR X (compareOp op') r') (hf' : OpF X.K r' f') (ha : DO X W a pa) (hb : DO X W b pb) (hc : DO X W c pc)
    (hm : lastMarks [op, op'] [b, c] = false := by with_unfolding_all rfl) : DE X W (.Compare a [op, op'] [b, c] pos) (dChain f f' pa pb pc) := pe_imp (pe_chain ho ho' ha hb hc hm) fun σ H Q h => chain_run hf hf' h
theorem dt_chain {op op' : CmpOp} {r r' : R2} {f f' : F2} (ho : OpR X (compareOp op) r) (hf : OpF X.K r f) (ho' : OpR X (compareOp op') r') (hf' : OpF X.K r' f') (ha : DO X W a pa) (hb : DO X W b pb) (hc : DO X W c pc)
    (hm : lastMarks [op, op'] [b, c] = false := by with_unfolding_all rfl) : DT X W (.Compare a [op, op'] [b, c] pos) (dTst (dChain f f' pa pb pc)) := pt_imp (pt_chain ho ho' ha hb hc hm) fun σ H Q h => tst_run (t := tChain r r' (realO X.K W pa) (realO X.K W pb) (realO X.K W pc)) (fun _ _ _ h => chain_run hf hf' h) h
end
end Px

set_option Elab.async false
set_option linter.all false
set_option maxRecDepth 100000
namespace Px
open PySem PySem.Spec PyProof.Rows L2

/-! ### the operators' meanings -/
def fAdd : F2
  | .int i, .int j, k => k (.int (i + j))
  | .lst a, .lst b, k => a.length + b.length ≤ 1000000 ∧ k (.lst (a ++ b))
  | .tup a, .tup b, k => a.length + b.length ≤ 1000000 ∧ k (.tup (a ++ b))
  | .str a, .str b, k => a.length + b.length ≤ 1000000 ∧ k (.str (a ++ b))
  | _, _, _ => False
def fSub : F2
  | .int i, .int j, k => k (.int (i - j))
  | _, _, _ => False
def fMul : F2
  | .int i, .int j, k => CMulX i j ∧ k (.int (i * j))
  | .lst a, .int n, k => -1000000 ≤ n ∧ n ≤ 1000000 ∧ a.length * n.toNat ≤ 1000000 ∧ k (.lst (List.replicate n.toNat a).flatten)
  | _, _, _ => False
def fDiv : F2
  | .int i, .int j, k => CDivW i j ∧ k (.int (i / j))
  | _, _, _ => False
def fMod : F2
  | .int i, .int j, k => 0 < j ∧ k (.int (i % j))
  | _, _, _ => False
def fPow : F2
  | .int i, .int j, k => CPow i j ∧ k (.int (i ^ j.toNat))
  | _, _, _ => False
def fCmp (p : Int → Int → Bool) : F2
  | .int i, .int j, k => k (.bl (p i j))
  | _, _, _ => False
abbrev fLt : F2 := fCmp fun i j => decide (i < j)
abbrev fLe : F2 := fCmp fun i j => decide (i ≤ j)
abbrev fGt : F2 := fCmp fun i j => decide (j < i)
abbrev fGe : F2 := fCmp fun i j => decide (j ≤ i)

theorem line_big {n : Nat} (h : n ≤ 1000000) : n ≤ sizeLine := Nat.le_trans h (by decide)
section
variable {X : Cx} {K : PySem.W.Frag}
theorem RpL.flat {F : Hp} {ds : List D} {xs : List V} (h : RpL K F ds xs) : ∀ n : Nat, RpL K F (List.replicate n ds).flatten (List.replicate n xs).flatten
  | 0 => rfl
  | n + 1 => by rw [List.replicate_succ, List.replicate_succ, List.flatten_cons, List.flatten_cons]; exact h.app (RpL.flat h n)
/-- what is new is handed on -/
theorem OpF.new {g : Gh} {σ : L2.St} {H : Hp} {ρ : Rho} {M : Mm} {F : Hp} {O : Own} {Q : VK} {o : HO} {d : D} {k : D → Prop} (A : Ab K g σ H ρ M F O) (c : ∀ z w H' F' O', Ab K g σ H' ρ M F' O' → Same F F' → Rp K F' z w → k z → Q w H')
    (hk : k d) (hr : ∀ p, (upd F p o) p = some o → Same F (upd F p o) → Rp K (upd F p o) d (.ref p)) : ∀ p, H p = none → Q (.ref p) (upd H p o) := fun p hp =>
  have s := same_new (o := o) (A.f0 hp)
  c d (.ref p) _ _ _ (A.lay hp) s (hr p upd_same s) hk
theorem opf_add : OpF K (fun x y H Q => rI0 (fun i j => .int (i + j)) x y H Q ∨ rCat x y H Q ∨ rCatA K x y H Q ∨ ∃ i j, x = .str i ∧ y = .str j ∧ i.length + j.length ≤ sizeLine ∧ Q (.str (i ++ j)) H) fAdd := by
  intro g σ H ρ M F O x y v u k Q A rx ry h c
  unfold fAdd at h
  split at h
  · rename_i i j
    exact .inl ⟨i, j, rx.int, ry.int, c (.int (i + j)) _ H F O A (Same.refl F) rfl h⟩
  · rename_i a b
    obtain ⟨p, xs, e1, h1, r1⟩ := rx.lst A
    obtain ⟨q, ys, e2, h2, r2⟩ := ry.lst A
    obtain ⟨hz, hk⟩ := h
    exact .inr (.inl ⟨p, q, xs, ys, e1, e2, h1, h2, by rw [← r1.len, ← r2.len]; exact line_big hz, OpF.new A c hk fun p e s => ⟨p, _, rfl, e, (RpL.mono s _ _ r1).app (RpL.mono s _ _ r2)⟩⟩)
  · rename_i a b
    obtain ⟨p, xs, e1, h1, r1⟩ := rx.tupF
    obtain ⟨q, ys, e2, h2, r2⟩ := ry.tupF
    obtain ⟨hz, hk⟩ := h
    refine .inr (.inr (.inl ⟨p, q, xs, ys, e1, e2, same_t A.sub h1, same_t A.sub h2, by rw [← r1.len, ← r2.len]; exact line_big hz, fun e => ?_, fun _ e => ?_, fun _ _ => ?_⟩))
    · subst e
      have ea : a = [] := List.length_eq_zero_iff.mp r1.len
      subst ea
      exact c (.tup b) _ H F O A (Same.refl F) ⟨q, ys, rfl, h2, r2⟩ hk
    · subst e
      have eb : b = [] := List.length_eq_zero_iff.mp r2.len
      subst eb
      rw [List.append_nil] at hk
      exact c (.tup a) _ H F O A (Same.refl F) ⟨p, xs, rfl, h1, r1⟩ hk
    · exact OpF.new A c hk fun p e s => ⟨p, _, rfl, .inl (.inl e), (RpL.mono s _ _ r1).app (RpL.mono s _ _ r2)⟩
  · rename_i a b
    obtain ⟨hz, hk⟩ := h
    exact .inr (.inr (.inr ⟨a, b, rx.str, ry.str, line_big hz, c (.str (a ++ b)) _ H F O A (Same.refl F) rfl hk⟩))
  · exact h.elim
theorem o_add : OpR X (binaryOp .Add) (fun x y H Q => rI0 (fun i j => .int (i + j)) x y H Q ∨ rCat x y H Q ∨ rCatA X.K x y H Q ∨ ∃ i j, x = .str i ∧ y = .str j ∧ i.length + j.length ≤ sizeLine ∧ Q (.str (i ++ j)) H) :=
  op_add.or (op_cat.or (op_catA.or op_add_str))
/-- ints in, an int or a bool out -/
theorem opf_i {C : Int → Int → Prop} {h : Int → Int → V} {h' : Int → Int → D} {f : F2} (hh : ∀ F i j, Rp K F (h' i j) (h i j)) (hf : ∀ x y k, f x y k → ∃ i j, x = .int i ∧ y = .int j ∧ C i j ∧ k (h' i j)) : OpF K (rI C h) f := by
  intro g σ H ρ M F O x y v u k Q A rx ry h c
  obtain ⟨i, j, rfl, rfl, hc, hk⟩ := hf x y k h
  exact ⟨i, j, rx.int, ry.int, hc, c _ _ H F O A (Same.refl F) (hh F i j) hk⟩
theorem opf_i0 {h : Int → Int → V} {h' : Int → Int → D} {f : F2} (hh : ∀ F i j, Rp K F (h' i j) (h i j)) (hf : ∀ x y k, f x y k → ∃ i j, x = .int i ∧ y = .int j ∧ k (h' i j)) : OpF K (rI0 h) f := by
  intro g σ H ρ M F O x y v u k Q A rx ry h c
  obtain ⟨i, j, rfl, rfl, hk⟩ := hf x y k h
  exact ⟨i, j, rx.int, ry.int, c _ _ H F O A (Same.refl F) (hh F i j) hk⟩
theorem opf_sub : OpF K (rI0 fun i j => .int (i - j)) fSub := opf_i0 (h' := fun i j => .int (i - j)) (fun _ _ _ => rfl) fun x y k h => by
  unfold fSub at h
  split at h
  · exact ⟨_, _, rfl, rfl, h⟩
  · exact h.elim
theorem opf_div : OpF K (rI CDivW fun i j => .int (i / j)) fDiv := opf_i (h' := fun i j => .int (i / j)) (fun _ _ _ => rfl) fun x y k h => by
  unfold fDiv at h
  split at h
  · exact ⟨_, _, rfl, rfl, h⟩
  · exact h.elim
theorem opf_mod : OpF K (rI (fun _ j => 0 < j) fun i j => .int (i % j)) fMod := opf_i (h' := fun i j => .int (i % j)) (fun _ _ _ => rfl) fun x y k h => by
  unfold fMod at h
  split at h
  · exact ⟨_, _, rfl, rfl, h⟩
  · exact h.elim
theorem opf_pow : OpF K (rI CPow fun i j => .int (i ^ j.toNat)) fPow := opf_i (h' := fun i j => .int (i ^ j.toNat)) (fun _ _ _ => rfl) fun x y k h => by
  unfold fPow at h
  split at h
  · exact ⟨_, _, rfl, rfl, h⟩
  · exact h.elim
theorem opf_cmp {p : Int → Int → Bool} : OpF K (rI0 fun i j => .bl (p i j)) (fCmp p) := opf_i0 (h' := fun i j => .bl (p i j)) (fun _ _ _ => rfl) fun x y k h => by
  unfold fCmp at h
  split at h
  · exact ⟨_, _, rfl, rfl, h⟩
  · exact h.elim
theorem opf_mul : OpF K (fun x y H Q => rI CMulX (fun i j => .int (i * j)) x y H Q ∨ rRep x y H Q) fMul := by
  intro g σ H ρ M F O x y v u k Q A rx ry h c
  unfold fMul at h
  split at h
  · rename_i i j
    exact .inl ⟨i, j, rx.int, ry.int, h.1, c (.int (i * j)) _ H F O A (Same.refl F) rfl h.2⟩
  · rename_i a n
    obtain ⟨p, xs, e1, h1, r1⟩ := rx.lst A
    obtain ⟨z1, z2, z3, hk⟩ := h
    exact .inr ⟨p, n, xs, e1, ry.int, h1, by omega, by omega, by rw [← r1.len]; exact line_big z3, OpF.new A c hk fun p e s => ⟨p, _, rfl, e, (RpL.mono s _ _ r1).flat _⟩⟩
  · exact h.elim
theorem o_mul : OpR X (binaryOp .Mult) (fun x y H Q => rI CMulX (fun i j => .int (i * j)) x y H Q ∨ rRep x y H Q) := op_mulX.or op_rep

/-! ### == of data -/
mutual
def toPy : D → PyData
  | .non => .none
  | .bl b => .bool b
  | .int i => .int i
  | .str s => .str s
  | .tup l => .tuple (toPyL l)
  | .lst l => .list (toPyL l)
  | .dic _ _ => .none
  | .obj _ _ _ => .none
  | .raw _ => .none
  | .scr _ => .none
  | .clo _ _ _ _ _ => .none
  | .exv _ _ _ _ _ => .none
def toPyL : List D → List PyData
  | [] => []
  | d :: ds => toPy d :: toPyL ds
end
/-- data without dicts and objects, at most so deep, texts of proper signs -/
def okD : Nat → D → Bool
  | _, .non => true
  | _, .bl _ => true
  | _, .int _ => true
  | _, .str s => PyData.strOk s
  | n + 1, .tup l => l.all (okD n)
  | n + 1, .lst l => l.all (okD n)
  | _, _ => false
def okP : Nat → D → Prop
  | _, .non => True
  | _, .bl _ => True
  | _, .int _ => True
  | _, .str s => PyData.strOk s = true
  | n + 1, .tup l => ∀ d ∈ l, okP n d
  | n + 1, .lst l => ∀ d ∈ l, okP n d
  | _, _ => False
theorem okP_of : ∀ (n : Nat) (d : D), okD n d = true → okP n d := by
  intro n
  induction n with
  | zero =>
    intro d h
    cases d <;> first | trivial | exact h | (cases h)
  | succ n ih =>
    intro d h
    cases d with
    | tup l => exact fun d hd => ih d (List.all_eq_true.mp (show l.all (okD n) = true from h) d hd)
    | lst l => exact fun d hd => ih d (List.all_eq_true.mp (show l.all (okD n) = true from h) d hd)
    | _ => first | trivial | exact h | (cases h)
theorem lay_all : ∀ {l : List D}, (∀ d ∈ l, (toPy d).canLay0 = true) → PyData.canLayAll0 (toPyL l) = true
  | [], _ => rfl
  | d :: ds, h => by
    show ((toPy d).canLay0 && PyData.canLayAll0 (toPyL ds)) = true
    rw [h d List.mem_cons_self, lay_all fun e he => h e (List.mem_cons_of_mem _ he)]
    rfl
theorem deep_all {n : Nat} : ∀ {l : List D}, (∀ d ∈ l, (toPy d).depth ≤ n) → PyData.depthAll (toPyL l) ≤ n
  | [], _ => Nat.zero_le _
  | d :: ds, h => by
    show max (toPy d).depth (PyData.depthAll (toPyL ds)) ≤ n
    exact Nat.max_le.mpr ⟨h d List.mem_cons_self, deep_all fun e he => h e (List.mem_cons_of_mem _ he)⟩
theorem py_ok : ∀ (n : Nat) (d : D), okP n d → (toPy d).canLay0 = true ∧ (toPy d).depth ≤ n := by
  intro n
  induction n with
  | zero =>
    intro d h
    cases d <;> first | exact ⟨rfl, Nat.zero_le _⟩ | exact ⟨h, Nat.zero_le _⟩ | exact h.elim
  | succ n ih =>
    intro d h
    cases d with
    | tup l => exact ⟨lay_all fun d hd => (ih d (h d hd)).1, Nat.succ_le_succ (deep_all fun d hd => (ih d (h d hd)).2)⟩
    | lst l => exact ⟨lay_all fun d hd => (ih d (h d hd)).1, Nat.succ_le_succ (deep_all fun d hd => (ih d (h d hd)).2)⟩
    | _ => first | exact ⟨rfl, Nat.zero_le _⟩ | exact ⟨h, Nat.zero_le _⟩ | exact h.elim
theorem dp_all {F : Hp} {n : Nat} (ih : ∀ d v, okP n d → Rp K F d v → Dp K F v (toPy d)) : ∀ {l : List D} {xs : List V}, (∀ d ∈ l, okP n d) → RpL K F l xs → DpAll K F xs (toPyL l)
  | [], _, _, r => by rw [show _ = [] from r]; exact .nil
  | d :: ds, _, h, ⟨x, r, e, q, t⟩ => by
    rw [e]
    exact .cons (ih d x (h d List.mem_cons_self) q) (dp_all ih (fun e he => h e (List.mem_cons_of_mem _ he)) t)
theorem dp_of {F : Hp} : ∀ (n : Nat) (d : D) (v : V), okP n d → Rp K F d v → Dp K F v (toPy d) := by
  intro n
  induction n with
  | zero =>
    intro d v h r
    cases d <;> first | (rw [show v = _ from r]; constructor) | exact h.elim
  | succ n ih =>
    intro d v h r
    cases d with
    | tup l =>
      obtain ⟨a, xs, e, s, q⟩ := r
      rw [e]
      exact .tup s (dp_all ih h q)
    | lst l =>
      obtain ⟨a, xs, e, s, q⟩ := r
      rw [e]
      exact .lst (.inl (.inl s)) (dp_all ih h q)
    | _ => first | (rw [show v = _ from r]; constructor) | exact h.elim
mutual
theorem Dp.up {F H : Hp} (s : Same F H) : ∀ (e : PyData) (v : V), Dp K F v e → Dp K H v e
  | .none, _, h => by cases h; exact .non
  | .bool b, _, h => by cases h; exact .bl b
  | .int i, _, h => by cases h; exact .int i
  | .str x, _, h => by cases h; exact .str x
  | .list ds, _, h => by
    cases h with
    | lst q t => exact .lst (same_l s q) (DpAll.up s ds _ t)
  | .tuple ds, _, h => by
    cases h with
    | tup q t => exact .tup (same_t s q) (DpAll.up s ds _ t)
  | .dict _, _, h => by cases h
theorem DpAll.up {F H : Hp} (s : Same F H) : ∀ (es : List PyData) (vs : List V), DpAll K F vs es → DpAll K H vs es
  | [], _, h => by cases h; exact .nil
  | e :: es, _, h => by
    cases h with
    | cons q t => exact .cons (Dp.up s e _ q) (DpAll.up s es _ t)
end
theorem vw_dp {g : Gh} {σ : L2.St} {H : Hp} {ρ : Rho} {M : Mm} {F : Hp} {O : Own} {d : D} {v : V} {n : Nat} (A : Ab K g σ H ρ M F O) (h : okP n d) (r : Vw K σ ρ F d v) : Dp K H v (toPy d) := by
  rcases r with r | ⟨i, l, p, h1, h2, h3, h4⟩
  · exact Dp.up A.sub _ _ (dp_of n d v h r)
  · subst h4
    obtain ⟨q, xs, e1, e2, e3⟩ := Vw.lst A (.inr ⟨i, l, p, h1, h2, h3, rfl⟩)
    rw [e1]
    cases n with
    | zero => exact h.elim
    | succ n => exact .lst (.inl (.inl e2)) (DpAll.up A.sub _ _ (dp_all (fun d v => dp_of n d v) h e3))
theorem shaped_ok {n : Nat} {d : D} (h : okP n d) (hn : n ≤ 64) : SeqAt.shaped (toPy d) = true := by
  obtain ⟨h1, h2⟩ := py_ok n d h
  unfold SeqAt.shaped
  rw [h1, decide_eq_true (Nat.le_trans h2 hn)]
  rfl
def eqD (x y : D) : Bool := PyData.eqv (toPy x) (toPy y)
def fEq : F2 := fun x y k => (okD 50 x && okD 50 y) = true ∧ k (.bl (eqD x y))
def fNe : F2 := fun x y k => (okD 50 x && okD 50 y) = true ∧ k (.bl (!eqD x y))
theorem opf_eq : OpF K (rEqD K) fEq := by
  intro g σ H ρ M F O x y v u k Q A rx ry h c
  obtain ⟨h1, hk⟩ := h
  obtain ⟨hx, hy⟩ := Bool.and_eq_true_iff.mp h1
  have px := okP_of _ _ hx
  have py := okP_of _ _ hy
  exact ⟨_, _, vw_dp A px rx, vw_dp A py ry, shaped_ok px (by decide), shaped_ok py (by decide), c (.bl (eqD x y)) _ H F O A (Same.refl F) rfl hk⟩
theorem opf_ne : OpF K (rNeD K) fNe := by
  intro g σ H ρ M F O x y v u k Q A rx ry h c
  obtain ⟨h1, hk⟩ := h
  obtain ⟨hx, hy⟩ := Bool.and_eq_true_iff.mp h1
  have px := okP_of _ _ hx
  have py := okP_of _ _ hy
  exact ⟨_, _, vw_dp A px rx, vw_dp A py ry, shaped_ok px (by decide), shaped_ok py (by decide), c (.bl (!eqD x y)) _ H F O A (Same.refl F) rfl hk⟩
/-! ### is None -/
def isN : D → Bool
  | .non => true
  | _ => false
theorem rp_isN {F : Hp} {d : D} {v : V} (h : match d with | .raw _ => False | _ => True) (r : Rp K F d v) : decide (v = .non) = isN d := by
  cases d with
  | non => rw [show v = .non from r]; rfl
  | bl b => rw [show v = .bl b from r]; rfl
  | int b => rw [show v = .int b from r]; rfl
  | str b => rw [show v = .str b from r]; rfl
  | tup l => obtain ⟨a, xs, e, _⟩ := r; rw [e]; rfl
  | lst l => obtain ⟨a, xs, e, _⟩ := r; rw [e]; rfl
  | dic ks l => obtain ⟨a, xs, e, _⟩ := r; rw [e]; rfl
  | obj C ns l => obtain ⟨a, dx, xs, e, _⟩ := r; rw [e]; rfl
  | raw w => exact h.elim
  | scr l => obtain ⟨a, e, _⟩ := r; rw [e]; rfl
  | clo _ _ _ _ _ => rw [r.1]; rfl
  | exv _ _ _ _ _ => rw [r.1]; rfl
def noRaw : D → Bool
  | .raw _ => false
  | _ => true
def fIs : F2 := fun x y k => match y with | .non => noRaw x = true ∧ k (.bl (isN x)) | _ => False
def fIsNot : F2 := fun x y k => match y with | .non => noRaw x = true ∧ k (.bl (!isN x)) | _ => False
theorem vw_isN {σ : L2.St} {ρ : Rho} {F : Hp} {d : D} {v : V} (h : noRaw d = true) (r : Vw K σ ρ F d v) : decide (v = .non) = isN d := by
  rcases r with r | ⟨i, l, p, h1, h2, h3, h4⟩
  · exact rp_isN (by cases d <;> first | trivial | (cases h)) r
  · subst h4; rw [h3]; rfl
theorem opf_is : OpF K (fun x y H Q => y = .non ∧ Q (.bl (decide (x = .non))) H) fIs := by
  intro g σ H ρ M F O x y v u k Q A rx ry h c
  unfold fIs at h
  split at h
  · exact ⟨ry.non, by rw [vw_isN h.1 rx]; exact c (.bl (isN x)) _ H F O A (Same.refl F) rfl h.2⟩
  · exact h.elim
theorem opf_isnot : OpF K (fun x y H Q => y = .non ∧ Q (.bl (!decide (x = .non))) H) fIsNot := by
  intro g σ H ρ M F O x y v u k Q A rx ry h c
  unfold fIsNot at h
  split at h
  · exact ⟨ry.non, by rw [vw_isN h.1 rx]; exact c (.bl (!isN x)) _ H F O A (Same.refl F) rfl h.2⟩
  · exact h.elim
end

section
variable {X : Cx} {W : WX} {a b c e i : Expr} {es rest : List Expr} {pa pb pc : PTE} {ta tb tc : PTT} {pl : PTA} {pos : Pos}
/-! ### short forms -/
theorem de_add (ha : DO X W a pa) (hb : DO X W b pb) : DE X W (.BinOp a .Add b pos) (dOp fAdd pa pb) := de_op o_add opf_add ha hb
theorem de_sub (ha : DO X W a pa) (hb : DO X W b pb) : DE X W (.BinOp a .Sub b pos) (dOp fSub pa pb) := de_op op_sub opf_sub ha hb
theorem de_mul (ha : DO X W a pa) (hb : DO X W b pb) : DE X W (.BinOp a .Mult b pos) (dOp fMul pa pb) := de_op o_mul opf_mul ha hb
theorem de_div (ha : DO X W a pa) (hb : DO X W b pb) : DE X W (.BinOp a .FloorDiv b pos) (dOp fDiv pa pb) := de_op op_fdivW opf_div ha hb
theorem de_mod (ha : DO X W a pa) (hb : DO X W b pb) : DE X W (.BinOp a .Mod b pos) (dOp fMod pa pb) := de_op op_mod opf_mod ha hb
theorem de_pow (ha : DO X W a pa) (hb : DO X W b pb) : DE X W (.BinOp a .Pow b pos) (dOp fPow pa pb) := de_op op_pow opf_pow ha hb
theorem de_lt (ha : DO X W a pa) (hb : DO X W b pb) : DE X W (.Compare a [.Lt] [b] pos) (dOp fLt pa pb) := de_cmp op_lt opf_cmp ha hb (nomark _)
theorem de_le (ha : DO X W a pa) (hb : DO X W b pb) : DE X W (.Compare a [.LtE] [b] pos) (dOp fLe pa pb) := de_cmp op_le opf_cmp ha hb (nomark _)
theorem de_gt (ha : DO X W a pa) (hb : DO X W b pb) : DE X W (.Compare a [.Gt] [b] pos) (dOp fGt pa pb) := de_cmp op_gt opf_cmp ha hb (nomark _)
theorem de_ge (ha : DO X W a pa) (hb : DO X W b pb) : DE X W (.Compare a [.GtE] [b] pos) (dOp fGe pa pb) := de_cmp op_ge opf_cmp ha hb (nomark _)
theorem de_eq (hu : X.A.units + 64 < cLine) (ha : DO X W a pa) (hb : DO X W b pb) : DE X W (.Compare a [.Eq] [b] pos) (dOp fEq pa pb) := de_cmp (op_eqD hu) opf_eq ha hb (nomark _)
theorem de_ne (hu : X.A.units + 64 < cLine) (ha : DO X W a pa) (hb : DO X W b pb) : DE X W (.Compare a [.NotEq] [b] pos) (dOp fNe pa pb) := de_cmp (op_neD hu) opf_ne ha hb (nomark _)
theorem de_is (ha : DO X W a pa) (hb : DO X W b pb) : DE X W (.Compare a [.Is] [b] pos) (dOp fIs pa pb) := de_cmp op_isN opf_is ha hb (nomark _)
theorem de_isnot (ha : DO X W a pa) (hb : DO X W b pb) : DE X W (.Compare a [.IsNot] [b] pos) (dOp fIsNot pa pb) := de_cmp op_notN opf_isnot ha hb (nomark _)
theorem dt_lt (ha : DO X W a pa) (hb : DO X W b pb) : DT X W (.Compare a [.Lt] [b] pos) (dTst (dOp fLt pa pb)) := dt_cmp op_lt opf_cmp ha hb (nomark _)
theorem dt_le (ha : DO X W a pa) (hb : DO X W b pb) : DT X W (.Compare a [.LtE] [b] pos) (dTst (dOp fLe pa pb)) := dt_cmp op_le opf_cmp ha hb (nomark _)
theorem dt_gt (ha : DO X W a pa) (hb : DO X W b pb) : DT X W (.Compare a [.Gt] [b] pos) (dTst (dOp fGt pa pb)) := dt_cmp op_gt opf_cmp ha hb (nomark _)
theorem dt_ge (ha : DO X W a pa) (hb : DO X W b pb) : DT X W (.Compare a [.GtE] [b] pos) (dTst (dOp fGe pa pb)) := dt_cmp op_ge opf_cmp ha hb (nomark _)
theorem dt_eq (hu : X.A.units + 64 < cLine) (ha : DO X W a pa) (hb : DO X W b pb) : DT X W (.Compare a [.Eq] [b] pos) (dTst (dOp fEq pa pb)) := dt_cmp (op_eqD hu) opf_eq ha hb (nomark _)
theorem dt_ne (hu : X.A.units + 64 < cLine) (ha : DO X W a pa) (hb : DO X W b pb) : DT X W (.Compare a [.NotEq] [b] pos) (dTst (dOp fNe pa pb)) := dt_cmp (op_neD hu) opf_ne ha hb (nomark _)
theorem dt_is (ha : DO X W a pa) (hb : DO X W b pb) : DT X W (.Compare a [.Is] [b] pos) (dTst (dOp fIs pa pb)) := dt_cmp op_isN opf_is ha hb (nomark _)
theorem dt_isnot (ha : DO X W a pa) (hb : DO X W b pb) : DT X W (.Compare a [.IsNot] [b] pos) (dTst (dOp fIsNot pa pb)) := dt_cmp op_notN opf_isnot ha hb (nomark _)
/-- two comparisons in a row, of ints -/
theorem de_ch {op op' : CmpOp} {p p' : Int → Int → Bool} (ho : OpR X (compareOp op) (rI0 fun i j => .bl (p i j))) (ho' : OpR X (compareOp op') (rI0 fun i j => .bl (p' i j))) (ha : DO X W a pa) (hb : DO X W b pb) (hc : DO X W c pc)
    (hm : lastMarks [op, op'] [b, c] = false := by with_unfolding_all rfl) : DE X W (.Compare a [op, op'] [b, c] pos) (dChain (fCmp p) (fCmp p') pa pb pc) := de_chain ho opf_cmp ho' opf_cmp ha hb hc hm
theorem dt_ch {op op' : CmpOp} {p p' : Int → Int → Bool} (ho : OpR X (compareOp op) (rI0 fun i j => .bl (p i j))) (ho' : OpR X (compareOp op') (rI0 fun i j => .bl (p' i j))) (ha : DO X W a pa) (hb : DO X W b pb) (hc : DO X W c pc)
    (hm : lastMarks [op, op'] [b, c] = false := by with_unfolding_all rfl) : DT X W (.Compare a [op, op'] [b, c] pos) (dTst (dChain (fCmp p) (fCmp p') pa pb pc)) := dt_chain ho opf_cmp ho' opf_cmp ha hb hc hm

/-! ### and, or, not -/
def dAnd (ta tb : PTT) : PTT := fun w ρ M q => ta w ρ M fun c M1 => if c = true then tb w ρ M1 q else q false M1
def dOr (ta tb : PTT) : PTT := fun w ρ M q => ta w ρ M fun c M1 => if c = true then q true M1 else tb w ρ M1 q
def dNot (ta : PTT) : PTT := fun w ρ M q => ta w ρ M fun c M1 => q (!c) M1
abbrev DW (X : Cx) (W : WX) (e : Expr) (p : PTT) : Prop := L2.PW X e (realT X.K W p)
theorem DW.dt (h : DW X W e ta) : DT X W e ta := L2.PW.pt h
theorem dw_and1 (ha : DT X W a ta) : DW X W (.BoolOp .And [a] pos) ta := pw_and1 ha
theorem dw_or1 (ha : DT X W a ta) : DW X W (.BoolOp .Or [a] pos) ta := pw_or1 ha
theorem dw_and (ha : DT X W a ta) (hb : DW X W (.BoolOp .And (b :: rest) pos) tb) : DW X W (.BoolOp .And (a :: b :: rest) pos) (dAnd ta tb) := pw_imp (pw_and ha hb) fun σ H Q ⟨g, ρ, M, F, O, q, w, A, p, hw, k⟩ =>
  ⟨g, ρ, M, F, O, _, w, A, p, hw, fun b H1 F1 O1 M1 A1 s1 q1 => by
    cases b with
    | true => exact ⟨g, ρ, M1, F1, O1, q, w, A1, q1, hw.mono s1, fun b H2 F2 O2 M2 A2 s2 q2 => k b H2 F2 O2 M2 A2 (s1.trans s2) q2⟩
    | false => exact k false H1 F1 O1 M1 A1 s1 q1⟩
theorem dw_or (ha : DT X W a ta) (hb : DW X W (.BoolOp .Or (b :: rest) pos) tb) : DW X W (.BoolOp .Or (a :: b :: rest) pos) (dOr ta tb) := pw_imp (pw_or ha hb) fun σ H Q ⟨g, ρ, M, F, O, q, w, A, p, hw, k⟩ =>
  ⟨g, ρ, M, F, O, _, w, A, p, hw, fun b H1 F1 O1 M1 A1 s1 q1 => by
    cases b with
    | false => exact ⟨g, ρ, M1, F1, O1, q, w, A1, q1, hw.mono s1, fun b H2 F2 O2 M2 A2 s2 q2 => k b H2 F2 O2 M2 A2 (s1.trans s2) q2⟩
    | true => exact k true H1 F1 O1 M1 A1 s1 q1⟩
theorem dt_not (ha : DT X W a ta) : DT X W (.UnaryOp .Not a pos) (dNot ta) := pt_imp (pt_not ha) fun σ H Q ⟨g, ρ, M, F, O, q, w, A, p, hw, k⟩ =>
  ⟨g, ρ, M, F, O, _, w, A, p, hw, fun b H1 F1 O1 M1 A1 s1 q1 => k (!b) H1 F1 O1 M1 A1 s1 q1⟩
/-- .. as values (bools) -/
def dAndV (pa pb : PTE) : PTE := fun w ρ M q => pa w ρ M fun d M1 => isB d fun c => if c = true then pb w ρ M1 q else q (.bl false) M1
def dOrV (pa pb : PTE) : PTE := fun w ρ M q => pa w ρ M fun d M1 => isB d fun c => if c = true then q (.bl true) M1 else pb w ρ M1 q
def dNotV (pa : PTE) : PTE := fun w ρ M q => pa w ρ M fun d M1 => isB d fun c => q (.bl (!c)) M1
theorem de_bone {op : BoolOp} (h : DE X W a pa) : DE X W (.BoolOp op [a] pos) pa := pe_one h
theorem de_and (ha : DE X W a pa) (hb : DE X W (.BoolOp .And (b :: rest) pos) pb) : DE X W (.BoolOp .And (a :: b :: rest) pos) (dAndV pa pb) := pe_imp (pe_and ha hb) fun σ H Q ⟨g, ρ, M, F, O, q, w, A, p, hw, k⟩ =>
  ⟨g, ρ, M, F, O, _, w, A, p, hw, fun v H1 F1 O1 M1 d A1 s1 r1 q1 => by
    obtain ⟨b, eb, q2⟩ := isB_run r1 q1
    refine ⟨b, eb, ?_⟩
    cases b with
    | true => exact ⟨g, ρ, M1, F1, O1, q, w, A1, q2, hw.mono s1, fun v H2 F2 O2 M2 d A2 s2 r2 q2 => k v H2 F2 O2 M2 d A2 (s1.trans s2) r2 q2⟩
    | false => exact k (.bl false) H1 F1 O1 M1 (.bl false) A1 s1 rfl q2⟩
theorem de_or (ha : DE X W a pa) (hb : DE X W (.BoolOp .Or (b :: rest) pos) pb) : DE X W (.BoolOp .Or (a :: b :: rest) pos) (dOrV pa pb) := pe_imp (pe_or ha hb) fun σ H Q ⟨g, ρ, M, F, O, q, w, A, p, hw, k⟩ =>
  ⟨g, ρ, M, F, O, _, w, A, p, hw, fun v H1 F1 O1 M1 d A1 s1 r1 q1 => by
    obtain ⟨b, eb, q2⟩ := isB_run r1 q1
    refine ⟨b, eb, ?_⟩
    cases b with
    | false => exact ⟨g, ρ, M1, F1, O1, q, w, A1, q2, hw.mono s1, fun v H2 F2 O2 M2 d A2 s2 r2 q2 => k v H2 F2 O2 M2 d A2 (s1.trans s2) r2 q2⟩
    | true => exact k (.bl true) H1 F1 O1 M1 (.bl true) A1 s1 rfl q2⟩
theorem de_not (ha : DE X W a pa) : DE X W (.UnaryOp .Not a pos) (dNotV pa) := pe_imp (pe_not ha) fun σ H Q ⟨g, ρ, M, F, O, q, w, A, p, hw, k⟩ =>
  ⟨g, ρ, M, F, O, _, w, A, p, hw, fun v H1 F1 O1 M1 d A1 s1 r1 q1 => by
    obtain ⟨b, eb, q2⟩ := isB_run r1 q1
    exact ⟨b, eb, k (.bl (!b)) H1 F1 O1 M1 (.bl (!b)) A1 s1 rfl q2⟩⟩
def dIf (tc : PTT) (pa pb : PTE) : PTE := fun w ρ M q => tc w ρ M fun c M1 => if c = true then pa w ρ M1 q else pb w ρ M1 q
theorem de_ife (hc : DT X W c tc) (ha : DE X W a pa) (hb : DE X W b pb) : DE X W (.IfExp c a b pos) (dIf tc pa pb) := pe_imp (pe_ifExp hc ha hb) fun σ H Q ⟨g, ρ, M, F, O, q, w, A, p, hw, k⟩ =>
  ⟨g, ρ, M, F, O, _, w, A, p, hw, fun b H1 F1 O1 M1 A1 s1 q1 => by
    cases b with
    | true => exact ⟨g, ρ, M1, F1, O1, q, w, A1, q1, hw.mono s1, fun v H2 F2 O2 M2 d A2 s2 r2 q2 => k v H2 F2 O2 M2 d A2 (s1.trans s2) r2 q2⟩
    | false => exact ⟨g, ρ, M1, F1, O1, q, w, A1, q1, hw.mono s1, fun v H2 F2 O2 M2 d A2 s2 r2 q2 => k v H2 F2 O2 M2 d A2 (s1.trans s2) r2 q2⟩⟩
/-- minus -/
def dNeg (pa : PTE) : PTE := fun w ρ M q => pa w ρ M fun d M1 => match d with | .int i => q (.int (-i)) M1 | _ => False
theorem de_neg (ha : DO X W a pa) : DE X W (.UnaryOp .USub a pos) (dNeg pa) := pe_imp (pe_un un_neg ha) fun σ H Q ⟨g, ρ, M, F, O, q, w, A, p, hw, k⟩ =>
  ⟨g, ρ, M, F, O, _, w, A, p, hw, fun v H1 F1 O1 M1 d A1 s1 r1 q1 => by
    cases d with
    | int i => exact ⟨i, r1.int, k (.int (-i)) H1 F1 O1 M1 (.int (-i)) A1 s1 rfl q1⟩
    | _ => exact (show False from q1).elim⟩

/-! ### arguments, displays -/
def dNil : PTA := fun _ _ M q => q [] M
def dCons (pa : PTE) (pl : PTA) : PTA := fun w ρ M q => pa w ρ M fun d M1 => pl w ρ M1 fun ds M2 => q (d :: ds) M2
theorem da_nil : DA X W [] dNil := pa_imp pa_nil fun σ H Q ⟨g, ρ, M, F, O, q, w, A, p, hw, k⟩ => k [] H F O M [] A (Same.refl F) rfl p
theorem da_cons (ha : DE X W e pa) (hr : DA X W es pl) (hs : starEach (e :: es) X.env = (false, eval e X.env) :: starEach es X.env := by rfl) : DA X W (e :: es) (dCons pa pl) := pa_imp (pa_cons ha hr hs) fun σ H Q ⟨g, ρ, M, F, O, q, w, A, p, hw, k⟩ =>
  ⟨g, ρ, M, F, O, _, w, A, p, hw, fun v H1 F1 O1 M1 d A1 s1 r1 q1 => ⟨g, ρ, M1, F1, O1, _, w, A1, q1, hw.mono s1, fun vs H2 F2 O2 M2 ds A2 s2 r2 q2 => k (v :: vs) H2 F2 O2 M2 (d :: ds) A2 (s1.trans s2) ⟨v, vs, rfl, Rp.mono s2 _ _ r1, r2⟩ q2⟩⟩
def dTup (pl : PTA) : PTE := fun w ρ M q => pl w ρ M fun ds M1 => ds.length ≤ 1000000 ∧ q (.tup ds) M1
theorem de_tup {x1 : Nat} (h : DA X W es pl) : DE X W (.Tuple es x1 pos) (dTup pl) := pe_imp (pe_tup h) fun σ H Q ⟨g, ρ, M, F, O, q, w, A, p, hw, k⟩ =>
  ⟨g, ρ, M, F, O, _, w, A, p, hw, fun vs H1 F1 O1 M1 ds A1 s1 r1 ⟨z, q1⟩ => ⟨by rw [← r1.len]; exact line_big z, fun p hp =>
    have s := same_new (o := .tup vs) (A1.f0 hp)
    k (.ref p) _ _ O1 M1 (.tup ds) (A1.lay hp) (s1.trans s) ⟨p, vs, rfl, .inl (.inl upd_same), RpL.mono s _ _ r1⟩ q1⟩⟩
def dLst (pl : PTA) : PTA := fun w ρ M q => pl w ρ M fun ds M1 => ds.length ≤ 1000000 ∧ q ds M1
theorem dl_lst (h : DA X W es pl) : DL X W (.List es pos) (dLst pl) := pe_imp (pe_lst h) fun σ H Q ⟨g, ρ, M, F, O, q, w, A, p, hw, k⟩ =>
  ⟨g, ρ, M, F, O, _, w, A, p, hw, fun vs H1 F1 O1 M1 ds A1 s1 r1 ⟨z, q1⟩ => ⟨by rw [← r1.len]; exact line_big z, fun p hp =>
    k p vs _ F1 O1 M1 ds (A1.laid hp) s1 upd_same r1 (A1.f0 hp) (A1.o0 hp) (A1.g0 hp) q1⟩⟩

/-! ### x[i] -/
/-- the item at i, also from behind -/
def atD (l : List D) (i : Int) (k : D → Prop) : Prop := ∃ d, atI l i = some d ∧ k d
def fIx : F2
  | .lst l, .int i, k => atD l i k
  | .tup l, .int i, k => atD l i k
  | _, _, _ => False
theorem RpL.atI {K : PySem.W.Frag} {F : Hp} {ds : List D} {xs : List V} {i : Int} {d : D} (r : RpL K F ds xs) (h : L2.atI ds i = some d) : ∃ x, L2.atI xs i = some x ∧ Rp K F d x := by
  unfold L2.atI at h ⊢
  rw [← r.len]
  cases e : ixN ds.length i with
  | none => rw [e] at h; cases h
  | some j =>
    rw [e] at h
    exact r.get h
theorem opf_ix {K : PySem.W.Frag} : OpF K (rIx K) fIx := by
  intro g σ H ρ M F O x y v u k Q A rx ry h c
  unfold fIx at h
  split at h
  · rename_i l i
    obtain ⟨d, h1, h2⟩ := h
    obtain ⟨p, xs, e1, hp, r1⟩ := rx.lst A
    obtain ⟨z, h3, r3⟩ := r1.atI h1
    exact .inl ⟨p, xs, i, z, e1, ry.int, .inl (.inl hp), h3, c d z H F O A (Same.refl F) r3 h2⟩
  · rename_i l i
    obtain ⟨d, h1, h2⟩ := h
    obtain ⟨p, xs, e1, hp, r1⟩ := rx.tup A
    obtain ⟨z, h3, r3⟩ := r1.atI h1
    exact .inr (.inl ⟨p, xs, i, z, e1, ry.int, hp, h3, c d z H F O A (Same.refl F) r3 h2⟩)
  · exact h.elim
theorem de_ix (ha : DO X W a pa) (hb : DO X W i pb) (hs : PlainIx i := by exact fun _ _ => rfl) : DE X W (.Subscript a i pos) (dOp fIx pa pb) := pe_imp (pe_ix ix_seq ha hb hs) fun σ H Q h => op_run opf_ix h
end
end Px

set_option Elab.async false
set_option linter.all false
set_option maxRecDepth 100000
namespace Px
open PySem PySem.Spec PyProof.Rows L2

/-! ## calls of built-in functions -/
abbrev F1 := D → (D → Prop) → Prop
abbrev G1 := D → (List D → Prop) → Prop
def BF1 (K : PySem.W.Frag) (r : List V → Hp → VK → Prop) (f : F1) : Prop := ∀ g σ H ρ M F O x v (k : D → Prop) (Q : VK), Ab K g σ H ρ M F O → Vw K σ ρ F x v → f x k →
  (∀ z w H' F' O', Ab K g σ H' ρ M F' O' → Same F F' → Rp K F' z w → k z → Q w H') → r [v] H Q
/-- a new list is handed back -/
def BG1 (K : PySem.W.Frag) (r : List V → Hp → VK → Prop) (f : G1) : Prop := ∀ g σ H ρ M F O x v (k : List D → Prop) (Q : VK), Ab K g σ H ρ M F O → Vw K σ ρ F x v → f x k →
  (∀ ds p xs, H p = none → RpL K F ds xs → k ds → Q (.ref p) (upd H p (.lst xs))) → r [v] H Q
def BF2 (K : PySem.W.Frag) (r : List V → Hp → VK → Prop) (f : F2) : Prop := ∀ g σ H ρ M F O x y v u (k : D → Prop) (Q : VK), Ab K g σ H ρ M F O → Vw K σ ρ F x v → Vw K σ ρ F y u → f x y k →
  (∀ z w H' F' O', Ab K g σ H' ρ M F' O' → Same F F' → Rp K F' z w → k z → Q w H') → r [v, u] H Q
def dB1 (f : F1) (pa : PTE) : PTE := fun w ρ M q => pa w ρ M fun x M1 => f x fun z => q z M1
def dG1 (f : G1) (pa : PTE) : PTA := fun w ρ M q => pa w ρ M fun x M1 => f x fun z => q z M1
section
variable {X : Cx} {W : WX} {a b : Expr} {pa pb : PTE} {pos p : Pos} {x : Str} {idn T : String} {r : List V → Hp → VK → Prop}
theorem b1_run {f : F1} (hf : BF1 X.K r f) {σ : L2.St} {H : Hp} {Q : VK} (h : real X.K W (dB1 f pa) σ H Q) : tCB r (tCons (realO X.K W pa) tNil) σ H Q := by
  obtain ⟨g, ρ, M, F, O, q, w, A, p, hw, k⟩ := h
  exact ⟨g, ρ, M, F, O, _, w, A, p, hw, fun v H1 F1 O1 M1 d A1 s1 r1 q1 => hf g σ H1 ρ M1 F1 O1 d v _ Q A1 r1 q1 fun z w2 H2 F2 O2 A2 s2 r2 q2 => k w2 H2 F2 O2 M1 z A2 (s1.trans s2) r2 q2⟩
theorem g1_run {f : G1} (hf : BG1 X.K r f) {σ : L2.St} {H : Hp} {Q : VK} (h : realL X.K W (dG1 f pa) σ H Q) : tCB r (tCons (realO X.K W pa) tNil) σ H Q := by
  obtain ⟨g, ρ, M, F, O, q, w, A, p, hw, k⟩ := h
  exact ⟨g, ρ, M, F, O, _, w, A, p, hw, fun v H1 F1 O1 M1 d A1 s1 r1 q1 => hf g σ H1 ρ M1 F1 O1 d v _ Q A1 r1 q1 fun ds p xs hp rl q2 =>
    k p xs _ F1 O1 M1 ds (A1.laid hp) s1 upd_same rl (A1.f0 hp) (A1.o0 hp) (A1.g0 hp) q2⟩
theorem b2_run {f : F2} (hf : BF2 X.K r f) {σ : L2.St} {H : Hp} {Q : VK} (h : real X.K W (dOp f pa pb) σ H Q) : tCB r (tCons (realO X.K W pa) (tCons (realO X.K W pb) tNil)) σ H Q := by
  obtain ⟨g, ρ, M, F, O, q, w, A, p, hw, k⟩ := h
  exact ⟨g, ρ, M, F, O, _, w, A, p, hw, fun v H1 F1 O1 M1 d A1 s1 r1 q1 => ⟨g, ρ, M1, F1, O1, _, w, A1, q1, hw.mono s1, fun u H2 F2 O2 M2 e A2 s2 r2 q2 =>
    hf g σ H2 ρ M2 F2 O2 d e v u _ Q A2 (r1.mono s2) r2 q2 fun z w3 H3 F3 O3 A3 s3 r3 q3 => k w3 H3 F3 O3 M2 z A3 ((s1.trans s2).trans s3) r3 q3⟩⟩
section
variable (hg : Gl X x) (hm : X.mg x = none) (hn : x ≠ "__name__" := by decide) (hdb : (x == ("__debug__" : Str)) = false := by decide) (he : starEach [a] X.env = (false, eval a X.env) :: starEach [] X.env := by rfl)
theorem de_b1 {f : F1} (hc : CallR X (.builtin idn) r) (hf : BF1 X.K r f) (hg : Gl X x) (hm : X.mg x = none) (hv : bootBuiltins x = some (.builtin idn)) (ha : DO X W a pa) (hn : x ≠ "__name__" := by decide) (hdb : (x == ("__debug__" : Str)) = false := by decide)
    (he : starEach [a] X.env = (false, eval a X.env) :: starEach [] X.env := by rfl) (hpl : (backTo pos (starEach [] X.env)).any (·.1) = false := by rfl) : DE X W (.Call (.Name x p) [a] [] pos) (dB1 f pa) :=
  pe_imp (pe_callB hc hg hm hv (pa_cons ha pa_nil he) hn hdb he hpl) fun σ H Q h => b1_run hf h
theorem dl_b1 {f : G1} (hc : CallR X (.builtin idn) r) (hf : BG1 X.K r f) (hg : Gl X x) (hm : X.mg x = none) (hv : bootBuiltins x = some (.builtin idn)) (ha : DO X W a pa) (hn : x ≠ "__name__" := by decide) (hdb : (x == ("__debug__" : Str)) = false := by decide)
    (he : starEach [a] X.env = (false, eval a X.env) :: starEach [] X.env := by rfl) (hpl : (backTo pos (starEach [] X.env)).any (·.1) = false := by rfl) : DL X W (.Call (.Name x p) [a] [] pos) (dG1 f pa) :=
  pe_imp (pe_callB hc hg hm hv (pa_cons ha pa_nil he) hn hdb he hpl) fun σ H Q h => g1_run hf h
theorem de_t1 {f : F1} (hc : CallR X (.type T) r) (hf : BF1 X.K r f) (hg : Gl X x) (hm : X.mg x = none) (hv : bootBuiltins x = some (.type T)) (ha : DO X W a pa) (hn : x ≠ "__name__" := by decide) (hdb : (x == ("__debug__" : Str)) = false := by decide)
    (he : starEach [a] X.env = (false, eval a X.env) :: starEach [] X.env := by rfl) (hpl : (backTo pos (starEach [] X.env)).any (·.1) = false := by rfl) : DE X W (.Call (.Name x p) [a] [] pos) (dB1 f pa) :=
  pe_imp (pe_callTy hc hg hm hv (pa_cons ha pa_nil he) hn hdb he hpl) fun σ H Q h => b1_run hf h
theorem dl_t1 {f : G1} (hc : CallR X (.type T) r) (hf : BG1 X.K r f) (hg : Gl X x) (hm : X.mg x = none) (hv : bootBuiltins x = some (.type T)) (ha : DO X W a pa) (hn : x ≠ "__name__" := by decide) (hdb : (x == ("__debug__" : Str)) = false := by decide)
    (he : starEach [a] X.env = (false, eval a X.env) :: starEach [] X.env := by rfl) (hpl : (backTo pos (starEach [] X.env)).any (·.1) = false := by rfl) : DL X W (.Call (.Name x p) [a] [] pos) (dG1 f pa) :=
  pe_imp (pe_callTy hc hg hm hv (pa_cons ha pa_nil he) hn hdb he hpl) fun σ H Q h => g1_run hf h
theorem de_b2 {f : F2} (hc : CallR X (.builtin idn) r) (hf : BF2 X.K r f) (hg : Gl X x) (hm : X.mg x = none) (hv : bootBuiltins x = some (.builtin idn)) (ha : DO X W a pa) (hb : DO X W b pb) (hn : x ≠ "__name__" := by decide) (hdb : (x == ("__debug__" : Str)) = false := by decide)
    (he : starEach [a, b] X.env = (false, eval a X.env) :: starEach [b] X.env := by rfl) (he2 : starEach [b] X.env = (false, eval b X.env) :: starEach [] X.env := by rfl) (hpl : (backTo pos (starEach [b] X.env)).any (·.1) = false := by rfl) : DE X W (.Call (.Name x p) [a, b] [] pos) (dOp f pa pb) :=
  pe_imp (pe_callB hc hg hm hv (pa_cons ha (pa_cons hb pa_nil he2) he) hn hdb he hpl) fun σ H Q h => b2_run hf h
end

/-! ### len, min, max, abs, int, all, any, sum -/
def fLen : F1
  | .lst l, k => k (.int l.length)
  | .tup l, k => k (.int l.length)
  | .scr l, k => k (.int l.length)
  | .str s, k => s.length ≤ 1000000 ∧ k (.int s.length)
  | _, _ => False
theorem bf_len : BF1 X.K (fun xs H Q => ∃ x n, xs = [x] ∧ LenV X.K x H n ∧ Q (.int n) H) fLen := by
  intro g σ H ρ M F O x v k Q A rx h c
  unfold fLen at h
  split at h
  · rename_i l
    obtain ⟨a, xs, e, hp, r⟩ := rx.lst A
    exact ⟨v, xs.length, rfl, by rw [e]; exact .inl ⟨xs, .inl (.inl hp), rfl⟩, c (.int xs.length) _ H F O A (Same.refl F) rfl (by rw [← r.len]; exact h)⟩
  · rename_i l
    obtain ⟨a, xs, e, hp, r⟩ := rx.tup A
    exact ⟨v, xs.length, rfl, by rw [e]; exact .inr ⟨xs, hp, rfl⟩, c (.int xs.length) _ H F O A (Same.refl F) rfl (by rw [← r.len]; exact h)⟩
  · rename_i l
    obtain ⟨a, e, hp⟩ := rx.scr A
    exact ⟨v, (l.map V.int).length, rfl, by rw [e]; exact .inl ⟨_, hp, rfl⟩, c (.int l.length) _ H F O A (Same.refl F) (by rw [List.length_map]; rfl) h⟩
  · rename_i s
    exact ⟨v, s.length, rfl, by rw [rx.str]; exact ⟨line_big h.1, rfl⟩, c (.int s.length) _ H F O A (Same.refl F) rfl h.2⟩
  · exact h.elim
theorem de_len (hg : Gl X "len") (hm : X.mg "len" = none) (ha : DO X W a pa) (he : starEach [a] X.env = (false, eval a X.env) :: starEach [] X.env := by rfl) (hpl : (backTo pos (starEach [] X.env)).any (·.1) = false := by rfl) :
    DE X W (.Call (.Name "len" p) [a] [] pos) (dB1 fLen pa) := de_b1 call_len bf_len hg hm PySem.boot_len ha (by decide) (by decide) he hpl
def intsOf : List D → Option (List Int)
  | [] => some []
  | .int i :: r => (intsOf r).map (i :: ·)
  | _ => none
theorem intsOf_eq : ∀ {l : List D} {ns : List Int}, intsOf l = some ns → l = ns.map .int
  | [], ns, h => by cases h; rfl
  | d :: r, ns, h => by
    cases d with
    | int i =>
      have h' : (intsOf r).map (i :: ·) = some ns := h
      cases e : intsOf r with
      | none => rw [e] at h'; cases h'
      | some ms =>
        rw [e] at h'
        cases h'
        rw [intsOf_eq e]; rfl
    | _ => cases h
theorem intsOf_map : ∀ ns : List Int, intsOf (ns.map .int) = some ns
  | [] => rfl
  | n :: ns => by
    show (intsOf (ns.map .int)).map (n :: ·) = _
    rw [intsOf_map ns]; rfl
def boolsOf : List D → Option (List Bool)
  | [] => some []
  | .bl i :: r => (boolsOf r).map (i :: ·)
  | _ => none
theorem boolsOf_eq : ∀ {l : List D} {ns : List Bool}, boolsOf l = some ns → l = ns.map .bl
  | [], ns, h => by cases h; rfl
  | d :: r, ns, h => by
    cases d with
    | bl i =>
      have h' : (boolsOf r).map (i :: ·) = some ns := h
      cases e : boolsOf r with
      | none => rw [e] at h'; cases h'
      | some ms =>
        rw [e] at h'
        cases h'
        rw [boolsOf_eq e]; rfl
    | _ => cases h
theorem boolsOf_map : ∀ ns : List Bool, boolsOf (ns.map .bl) = some ns
  | [] => rfl
  | n :: ns => by
    show (boolsOf (ns.map .bl)).map (n :: ·) = _
    rw [boolsOf_map ns]; rfl
def minL : Int → List Int → Int
  | n, [] => n
  | n, m :: r => minL (if m < n then m else n) r
def maxL : Int → List Int → Int
  | n, [] => n
  | n, m :: r => maxL (if m > n then m else n) r
theorem minL_le : ∀ (r : List Int) (n : Int), minL n r ≤ n ∧ ∀ m ∈ r, minL n r ≤ m
  | [], n => ⟨Int.le_refl _, fun _ h => nomatch h⟩
  | m :: r, n => by
    obtain ⟨h1, h2⟩ := minL_le r (if m < n then m else n)
    have hd : minL n (m :: r) = minL (if m < n then m else n) r := rfl
    rw [hd]
    have hi : (if m < n then m else n) ≤ n ∧ (if m < n then m else n) ≤ m := by split <;> omega
    refine ⟨by omega, fun x hx => ?_⟩
    rcases List.mem_cons.mp hx with e | hx
    · rw [e]; omega
    · exact h2 x hx
theorem minL_mem : ∀ (r : List Int) (n : Int), minL n r ∈ n :: r
  | [], n => List.mem_cons_self
  | m :: r, n => by
    have h := minL_mem r (if m < n then m else n)
    have hd : minL n (m :: r) = minL (if m < n then m else n) r := rfl
    rw [hd]
    rcases List.mem_cons.mp h with e | e
    · rw [e]; split <;> simp
    · exact List.mem_cons_of_mem _ (List.mem_cons_of_mem _ e)
theorem maxL_le : ∀ (r : List Int) (n : Int), n ≤ maxL n r ∧ ∀ m ∈ r, m ≤ maxL n r
  | [], n => ⟨Int.le_refl _, fun _ h => nomatch h⟩
  | m :: r, n => by
    obtain ⟨h1, h2⟩ := maxL_le r (if m > n then m else n)
    have hd : maxL n (m :: r) = maxL (if m > n then m else n) r := rfl
    rw [hd]
    have hi : (if m > n then m else n) ≥ n ∧ (if m > n then m else n) ≥ m := by split <;> omega
    refine ⟨by omega, fun x hx => ?_⟩
    rcases List.mem_cons.mp hx with e | hx
    · rw [e]; omega
    · exact h2 x hx
theorem maxL_mem : ∀ (r : List Int) (n : Int), maxL n r ∈ n :: r
  | [], n => List.mem_cons_self
  | m :: r, n => by
    have h := maxL_mem r (if m > n then m else n)
    have hd : maxL n (m :: r) = maxL (if m > n then m else n) r := rfl
    rw [hd]
    rcases List.mem_cons.mp h with e | e
    · rw [e]; split <;> simp
    · exact List.mem_cons_of_mem _ (List.mem_cons_of_mem _ e)
def fMin : F1
  | .lst l, k => match intsOf l with | some (n :: r) => k (.int (minL n r)) | _ => False
  | _, _ => False
def fMax : F1
  | .lst l, k => match intsOf l with | some (n :: r) => k (.int (maxL n r)) | _ => False
  | _, _ => False
theorem bf_min : BF1 X.K (rMin X.K) fMin := by
  intro g σ H ρ M F O x v k Q A rx h c
  unfold fMin at h
  split at h
  · rename_i l
    split at h
    · rename_i n r e
      obtain ⟨a, xs, e1, hp, rl⟩ := rx.lst A
      rw [intsOf_eq e] at rl
      have ex := rl.ints
      subst ex
      refine ⟨a, n :: r, by rw [e1], .inl (.inl hp), Nat.succ_pos _, fun m hm hle => ?_⟩
      obtain ⟨h1, h2⟩ := minL_le r n
      have h3 := minL_mem r n
      have em : m = minL n r := by
        have q1 := hle _ h3
        rcases List.mem_cons.mp hm with z | z
        · omega
        · have q2 := h2 m z; omega
      rw [em]
      exact c (.int (minL n r)) _ H F O A (Same.refl F) rfl h
    · exact h.elim
  · exact h.elim
theorem bf_max : BF1 X.K (rMax X.K) fMax := by
  intro g σ H ρ M F O x v k Q A rx h c
  unfold fMax at h
  split at h
  · rename_i l
    split at h
    · rename_i n r e
      obtain ⟨a, xs, e1, hp, rl⟩ := rx.lst A
      rw [intsOf_eq e] at rl
      have ex := rl.ints
      subst ex
      refine ⟨a, n :: r, by rw [e1], .inl (.inl hp), Nat.succ_pos _, fun m hm hle => ?_⟩
      obtain ⟨h1, h2⟩ := maxL_le r n
      have h3 := maxL_mem r n
      have em : m = maxL n r := by
        have q1 := hle _ h3
        rcases List.mem_cons.mp hm with z | z
        · omega
        · have q2 := h2 m z; omega
      rw [em]
      exact c (.int (maxL n r)) _ H F O A (Same.refl F) rfl h
    · exact h.elim
  · exact h.elim
def fAll : F1
  | .lst l, k => match boolsOf l with | some bs => k (.bl (bs.all id)) | _ => False
  | _, _ => False
def fAny : F1
  | .lst l, k => match boolsOf l with | some bs => k (.bl (bs.any id)) | _ => False
  | _, _ => False
def fSum : F1
  | .lst l, k => match intsOf l with | some ns => k (.int ns.sum) | _ => False
  | _, _ => False
theorem bf_all : BF1 X.K (rAll X.K) fAll := by
  intro g σ H ρ M F O x v k Q A rx h c
  unfold fAll at h
  split at h
  · split at h
    · rename_i bs e
      obtain ⟨a, xs, e1, hp, rl⟩ := rx.lst A
      rw [boolsOf_eq e] at rl
      have ex := rl.bls
      subst ex
      exact ⟨a, bs, by rw [e1], .inl (.inl hp), c (.bl (bs.all id)) _ H F O A (Same.refl F) rfl h⟩
    · exact h.elim
  · exact h.elim
theorem bf_any : BF1 X.K (rAny X.K) fAny := by
  intro g σ H ρ M F O x v k Q A rx h c
  unfold fAny at h
  split at h
  · split at h
    · rename_i bs e
      obtain ⟨a, xs, e1, hp, rl⟩ := rx.lst A
      rw [boolsOf_eq e] at rl
      have ex := rl.bls
      subst ex
      exact ⟨a, bs, by rw [e1], .inl (.inl hp), c (.bl (bs.any id)) _ H F O A (Same.refl F) rfl h⟩
    · exact h.elim
  · exact h.elim
theorem bf_sum : BF1 X.K (rSum X.K) fSum := by
  intro g σ H ρ M F O x v k Q A rx h c
  unfold fSum at h
  split at h
  · split at h
    · rename_i bs e
      obtain ⟨a, xs, e1, hp, rl⟩ := rx.lst A
      rw [intsOf_eq e] at rl
      have ex := rl.ints
      subst ex
      exact ⟨a, bs, by rw [e1], .inl (.inl hp), c (.int bs.sum) _ H F O A (Same.refl F) rfl h⟩
    · exact h.elim
  · exact h.elim
def fAbs : F1
  | .int i, k => k (.int (if i < 0 then -i else i))
  | _, _ => False
theorem bf_abs : BF1 X.K (fun xs H Q => ∃ i, xs = [.int i] ∧ Q (.int (if i < 0 then -i else i)) H) fAbs := by
  intro g σ H ρ M F O x v k Q A rx h c
  unfold fAbs at h
  split at h
  · rename_i i
    exact ⟨i, by rw [rx.int], c (.int (if i < 0 then -i else i)) _ H F O A (Same.refl F) rfl h⟩
  · exact h.elim
def fInt : F1
  | .int i, k => k (.int i)
  | .bl b, k => k (.int (if b then 1 else 0))
  | _, _ => False
theorem bf_int : BF1 X.K (fun xs H Q => (∃ i, xs = [.int i] ∧ Q (.int i) H) ∨ ∃ k, xs = [.bl k] ∧ Q (.int (if k then 1 else 0)) H) fInt := by
  intro g σ H ρ M F O x v k Q A rx h c
  unfold fInt at h
  split at h
  · rename_i i
    exact .inl ⟨i, by rw [rx.int], c (.int i) _ H F O A (Same.refl F) rfl h⟩
  · rename_i b
    exact .inr ⟨b, by rw [rx.bl], c (.int (if b then 1 else 0)) _ H F O A (Same.refl F) rfl h⟩
  · exact h.elim
def fMin2 : F2
  | .int i, .int j, k => k (.int (if j < i then j else i))
  | _, _, _ => False
def fMax2 : F2
  | .int i, .int j, k => k (.int (if j > i then j else i))
  | _, _, _ => False
theorem bf_min2 : BF2 X.K (fun xs H Q => ∃ i j, xs = [.int i, .int j] ∧ Q (.int (if j < i then j else i)) H) fMin2 := by
  intro g σ H ρ M F O x y v u k Q A rx ry h c
  unfold fMin2 at h
  split at h
  · rename_i i j
    exact ⟨i, j, by rw [rx.int, ry.int], c (.int (if j < i then j else i)) _ H F O A (Same.refl F) rfl h⟩
  · exact h.elim
theorem bf_max2 : BF2 X.K (fun xs H Q => ∃ i j, xs = [.int i, .int j] ∧ Q (.int (if j > i then j else i)) H) fMax2 := by
  intro g σ H ρ M F O x y v u k Q A rx ry h c
  unfold fMax2 at h
  split at h
  · rename_i i j
    exact ⟨i, j, by rw [rx.int, ry.int], c (.int (if j > i then j else i)) _ H F O A (Same.refl F) rfl h⟩
  · exact h.elim
section
variable (he : starEach [a] X.env = (false, eval a X.env) :: starEach [] X.env)
theorem de_min (hc : X.calm = true) (hg : Gl X "min") (hm : X.mg "min" = none) (ha : DO X W a pa) (he : starEach [a] X.env = (false, eval a X.env) :: starEach [] X.env := by rfl) (hpl : (backTo pos (starEach [] X.env)).any (·.1) = false := by rfl) :
    DE X W (.Call (.Name "min" p) [a] [] pos) (dB1 fMin pa) := de_b1 (cr_min hc) bf_min hg hm (by decide +kernel) ha (by decide) (by decide) he hpl
theorem de_max (hc : X.calm = true) (hg : Gl X "max") (hm : X.mg "max" = none) (ha : DO X W a pa) (he : starEach [a] X.env = (false, eval a X.env) :: starEach [] X.env := by rfl) (hpl : (backTo pos (starEach [] X.env)).any (·.1) = false := by rfl) :
    DE X W (.Call (.Name "max" p) [a] [] pos) (dB1 fMax pa) := de_b1 (cr_max hc) bf_max hg hm (by decide +kernel) ha (by decide) (by decide) he hpl
theorem de_all (hc : X.calm = true) (hg : Gl X "all") (hm : X.mg "all" = none) (ha : DO X W a pa) (he : starEach [a] X.env = (false, eval a X.env) :: starEach [] X.env := by rfl) (hpl : (backTo pos (starEach [] X.env)).any (·.1) = false := by rfl) :
    DE X W (.Call (.Name "all" p) [a] [] pos) (dB1 fAll pa) := de_b1 (cr_all hc) bf_all hg hm (by decide +kernel) ha (by decide) (by decide) he hpl
theorem de_any (hc : X.calm = true) (hg : Gl X "any") (hm : X.mg "any" = none) (ha : DO X W a pa) (he : starEach [a] X.env = (false, eval a X.env) :: starEach [] X.env := by rfl) (hpl : (backTo pos (starEach [] X.env)).any (·.1) = false := by rfl) :
    DE X W (.Call (.Name "any" p) [a] [] pos) (dB1 fAny pa) := de_b1 (cr_any hc) bf_any hg hm (by decide +kernel) ha (by decide) (by decide) he hpl
theorem de_sum (hc : X.calm = true) (hg : Gl X "sum") (hm : X.mg "sum" = none) (ha : DO X W a pa) (he : starEach [a] X.env = (false, eval a X.env) :: starEach [] X.env := by rfl) (hpl : (backTo pos (starEach [] X.env)).any (·.1) = false := by rfl) :
    DE X W (.Call (.Name "sum" p) [a] [] pos) (dB1 fSum pa) := de_b1 (cr_sum hc) bf_sum hg hm (by decide +kernel) ha (by decide) (by decide) he hpl
theorem de_abs (hg : Gl X "abs") (hm : X.mg "abs" = none) (ha : DO X W a pa) (he : starEach [a] X.env = (false, eval a X.env) :: starEach [] X.env := by rfl) (hpl : (backTo pos (starEach [] X.env)).any (·.1) = false := by rfl) :
    DE X W (.Call (.Name "abs" p) [a] [] pos) (dB1 fAbs pa) := de_b1 call_abs bf_abs hg hm (by decide +kernel) ha (by decide) (by decide) he hpl
theorem de_intc (hg : Gl X "int") (hm : X.mg "int" = none) (ha : DO X W a pa) (he : starEach [a] X.env = (false, eval a X.env) :: starEach [] X.env := by rfl) (hpl : (backTo pos (starEach [] X.env)).any (·.1) = false := by rfl) :
    DE X W (.Call (.Name "int" p) [a] [] pos) (dB1 fInt pa) := de_t1 call_int1 bf_int hg hm (by decide +kernel) ha (by decide) (by decide) he hpl
theorem de_min2 (hc : X.calm = true) (hg : Gl X "min") (hm : X.mg "min" = none) (ha : DO X W a pa) (hb : DO X W b pb) (he : starEach [a, b] X.env = (false, eval a X.env) :: starEach [b] X.env := by rfl) (he2 : starEach [b] X.env = (false, eval b X.env) :: starEach [] X.env := by rfl)
    (hpl : (backTo pos (starEach [b] X.env)).any (·.1) = false := by rfl) : DE X W (.Call (.Name "min" p) [a, b] [] pos) (dOp fMin2 pa pb) := de_b2 (call_min2 hc) bf_min2 hg hm (by decide +kernel) ha hb (by decide) (by decide) he he2 hpl
theorem de_max2 (hc : X.calm = true) (hg : Gl X "max") (hm : X.mg "max" = none) (ha : DO X W a pa) (hb : DO X W b pb) (he : starEach [a, b] X.env = (false, eval a X.env) :: starEach [b] X.env := by rfl) (he2 : starEach [b] X.env = (false, eval b X.env) :: starEach [] X.env := by rfl)
    (hpl : (backTo pos (starEach [b] X.env)).any (·.1) = false := by rfl) : DE X W (.Call (.Name "max" p) [a, b] [] pos) (dOp fMax2 pa pb) := de_b2 (call_max2 hc) bf_max2 hg hm (by decide +kernel) ha hb (by decide) (by decide) he he2 hpl
end

/-! ### isinstance with a built-in type -/
def tyD : D → Option String
  | .non => some "NoneType"
  | .bl _ => some "bool"
  | .int _ => some "int"
  | .str _ => some "str"
  | .tup _ => some "tuple"
  | .lst _ => some "list"
  | .dic _ _ => some "dict"
  | .scr _ => some "list"
  | _ => none
def subTy (a t : String) : Bool := a == t || (a == "bool" && t == "int")
def tys : List String := ["NoneType", "bool", "int", "str", "tuple", "list", "dict"]
theorem kit_tys : ∀ a ∈ tys, ∀ t ∈ tys, kitB a t = some (subTy a t) := by decide +kernel
theorem tyD_mem {d : D} {a : String} (h : tyD d = some a) : a ∈ tys := by
  cases d <;> first | (cases h; decide) | cases h
theorem vw_ty {K : PySem.W.Frag} {g : Gh} {σ : L2.St} {H : Hp} {ρ : Rho} {M : Mm} {F : Hp} {O : Own} {d : D} {v : V} {t : String} (A : Ab K g σ H ρ M F O) (r : Vw K σ ρ F d v) (h : tyD d = some t) : TyX K H v (.type t) := by
  cases d with
  | non => cases h; rw [r.non]; exact .base .non
  | bl b => cases h; rw [r.bl]; exact .base (.bl b)
  | int i => cases h; rw [r.int]; exact .base (.int i)
  | str s => cases h; rw [r.str]; exact .base (.str s)
  | lst l =>
    cases h
    obtain ⟨a, xs, e, hp, _⟩ := r.lst A
    rw [e]; exact .base (.lst hp)
  | tup l =>
    cases h
    obtain ⟨a, xs, e, hp, _⟩ := r.tup A
    rw [e]
    rcases hp with (hp | ⟨o, hp⟩) | ⟨o, its, n, hk, hc, _⟩
    · exact .base (.tup hp)
    · exact .fTuple hp
    · exact .kTuple hk hc
  | scr l =>
    cases h
    obtain ⟨a, e, hp⟩ := r.scr A
    rw [e]
    rcases hp with (hp | ⟨o, hp⟩) | ⟨o, its, n, hk, hc, _⟩
    · exact .base (.lst hp)
    · exact .base (.frz hp)
    · exact .kList hk hc
  | dic ks l =>
    cases h
    rcases r with ⟨a, kvs, e, hp, _⟩ | ⟨_, _, _, _, _, _, z⟩
    · rw [e]
      rcases same_rd A.sub hp with hp | ⟨o, hp⟩
      · exact .base (.dK hp)
      · exact .fDict hp
    · cases z
  | obj _ _ _ => cases h
  | raw _ => cases h
  | clo _ _ _ _ _ => cases h
  | exv _ _ _ _ _ => cases h
def fIsi (t : String) : F1 := fun d k => match tyD d with | some a => k (.bl (subTy a t)) | none => False
theorem de_isi (T : String) (hT : T ∈ tys) {x2 : Str} {p2 : Pos} (hg : Gl X "isinstance") (hm : X.mg "isinstance" = none) (hg2 : Gl X x2) (hm2 : X.mg x2 = none) (hv2 : bootBuiltins x2 = some (.type T)) (ha : DO X W a pa)
    (hn2 : x2 ≠ "__name__" := by decide) (hd2 : (x2 == ("__debug__" : Str)) = false := by decide)
    (he : starEach [a, .Name x2 p2] X.env = (false, eval a X.env) :: starEach [.Name x2 p2] X.env := by rfl) (he2 : starEach [.Name x2 p2] X.env = (false, eval (.Name x2 p2) X.env) :: starEach [] X.env := by rfl)
    (hpl : (backTo pos (starEach [.Name x2 p2] X.env)).any (·.1) = false := by rfl) : DE X W (.Call (.Name "isinstance" p) [a, .Name x2 p2] [] pos) (dB1 (fIsi T) pa) :=
  pe_imp (pe_callB call_isi hg hm (by decide +kernel) (pa_cons ha (pa_cons (pe_bltn (v := .ty T) hg2 hm2 hv2 rfl hn2 hd2) pa_nil he2) he) (by decide) (by decide) he hpl) fun σ H Q ⟨g, ρ, M, F, O, q, w, A, p, hw, k⟩ =>
  ⟨g, ρ, M, F, O, _, w, A, p, hw, fun v H1 F1 O1 M1 d A1 s1 r1 q1 => by
    cases e : tyD d with
    | none => simp only [fIsi, e] at q1
    | some t =>
      simp only [fIsi, e] at q1
      exact ⟨v, .ty T, _, _, subTy t T, rfl, .ty T, vw_ty A1 r1 e, kit_ty (kit_tys t (tyD_mem e) T hT), k (.bl (subTy t T)) H1 F1 O1 M1 (.bl (subTy t T)) A1 s1 rfl q1⟩⟩
end
end Px

set_option Elab.async false
set_option linter.all false
set_option maxRecDepth 100000
namespace Px
open PySem PySem.Spec PyProof.Rows L2

/-! ## defs: their promises over plain data -/
abbrev PSp := List D → Mm → PQ → PX → Prop
/-- what a call leaves of the state at which it was made -/
def Aft (K : PySem.W.Frag) (H : Hp) (F : Hp) (O : Own) (H' : Hp) (M' : Mm) (F' : Hp) (O' : Own) : Prop :=
  Wd K ⟨H, F, fun a => ∃ m, O a = some (.obj m), []⟩ H' M' F' O' ∧ ∀ a o, O' a = some o → ∃ m, o = .obj m
def toSp (K : PySem.W.Frag) (n : Nat) (sp : PSp) : Sp := fun vs H Q E => ∃ g F M O ds q e, vs.length = n ∧ Wd K g H M F O ∧ RpL K F ds vs ∧ sp ds M q e ∧
  (∀ v H' F' O' M' d, Aft K H F O H' M' F' O' → Rp K F' d v → q d M' → Q v H') ∧
  (∀ cls dd H' F' O' M' fs, Aft K H F O H' M' F' O' → ExOk K F' dd fs → e cls fs M' → E cls dd H')

section
variable {K : PySem.W.Frag} {g : Gh} {σ : L2.St} {H H' : Hp} {ρ : Rho} {M M' : Mm} {F F' : Hp} {O O' : Own}
open Classical in
/-- back behind a call -/
theorem Ab.after2 (A : Ab K g σ H ρ M F O) (B : Aft K H F O H' M' F' O') : ∃ O2, Ab K g σ H' ρ M' F' O2 ∧ Same F F' ∧ ∀ a, O a = none → O2 a = O' a := by
  obtain ⟨B, hb⟩ := B
  have s : Same F F' := B.ext0
  have nobj : ∀ {a o}, O a = some o → (∀ m, o ≠ .obj m) → ¬ ∃ m, O a = some (.obj m) := fun e n ⟨m, z⟩ => by rw [e] at z; exact n m (Option.some.inj z)
  have keep : ∀ {a o u}, O a = some o → (∀ m, o ≠ .obj m) → H a = some u → H' a = some u := fun {a o u} e n h => B.frm a u h (nobj e n)
  have apart : ∀ {a o o'}, O a = some o → (∀ m, o ≠ .obj m) → O' a = some o' → False := fun {a o o'} e n e' => by
    obtain ⟨⟨x, hx⟩, _⟩ := A.liv a o e
    rcases (B.liv a o' e').2.2 with z | z
    · exact nobj e n z
    · rw [show H a = none from z] at hx; cases hx
  refine ⟨fun a => if (∃ o, O a = some o ∧ ∀ m, o ≠ .obj m) then O a else O' a, ?_, s, fun a e => if_neg (by
    rintro ⟨u, e1, _⟩
    rw [e] at e1; cases e1)⟩
  have priv : ∀ {a o}, O a = some o → (∀ m, o ≠ .obj m) → (if (∃ o, O a = some o ∧ ∀ m, o ≠ .obj m) then O a else O' a) = some o := fun e n => by rw [if_pos ⟨_, e, n⟩]; exact e
  have publ : ∀ {a o}, O' a = some o → (if (∃ o, O a = some o ∧ ∀ m, o ≠ .obj m) then O a else O' a) = some o := fun {a o} e => by
    rw [if_neg]
    · exact e
    · rintro ⟨u, e1, n⟩
      exact apart e1 n e
  exact { sub := B.sub, ext0 := A.ext0.trans s
          new := fun a o e => by
            rcases B.new a o e with z | z
            · exact A.new a o z
            · exact .inr (A.g0 z)
          frm := fun a o e n => by
            refine B.frm a o (A.frm a o e n) ?_
            rintro ⟨m, z⟩
            rcases (A.liv a _ z).2.2 with y | y
            · exact n y
            · rw [e] at y; cases y
          thr := fun a o e => by
            obtain ⟨o1, z⟩ := A.thr a o e
            exact B.thr a o1 z
          liv := fun a o e => by
            by_cases c : ∃ o, O a = some o ∧ ∀ m, o ≠ .obj m
            · rw [if_pos c] at e
              obtain ⟨u, e1, n⟩ := c
              rw [e] at e1; cases e1
              obtain ⟨⟨x, hx⟩, hF, h0⟩ := A.liv a o e
              refine ⟨⟨x, keep e n hx⟩, ?_, h0⟩
              cases z : F' a with
              | none => rfl
              | some y =>
                rcases B.new a y z with w | w
                · rw [show F a = some y from w] at hF; cases hF
                · rw [show H a = none from w] at hx; cases hx
            · rw [if_neg c] at e
              obtain ⟨h1, h2, h3⟩ := B.liv a o e
              refine ⟨h1, h2, ?_⟩
              rcases h3 with ⟨m, z⟩ | z
              · exact (A.liv a _ z).2.2
              · exact .inr (A.g0 z)
          slo := fun a o e n => by
            by_cases c : ∃ o, O a = some o ∧ ∀ m, o ≠ .obj m
            · rw [if_pos c] at e
              exact A.slo a o e n
            · rw [if_neg c] at e
              obtain ⟨m, z⟩ := hb a o e
              exact absurd z (n m)
          tm := fun p l e => by
            obtain ⟨xs, e1, e2, e3⟩ := A.tm p l e
            exact ⟨xs, keep e3 (fun _ z => by cases z) e1, RpL.mono s _ _ e2, priv e3 (fun _ z => by cases z)⟩
          mu := fun a mo e => (B.mu a mo e).mono (Same.refl F') fun q u e1 e2 => ⟨e1, publ e2⟩
          len := A.len
          sl := fun i sv e => by
            obtain ⟨v, e1, r⟩ := A.sl i sv e
            exact ⟨v, e1, r.mono s fun p xs e2 e3 => ⟨keep e3 (fun _ z => by cases z) e2, priv e3 (fun _ z => by cases z)⟩⟩ }
theorem Ab.after (A : Ab K g σ H ρ M F O) (B : Aft K H F O H' M' F' O') : ∃ O2, Ab K g σ H' ρ M' F' O2 ∧ Same F F' :=
  let ⟨O2, h1, h2, _⟩ := A.after2 B
  ⟨O2, h1, h2⟩
def startR (n : Nat) (ds : List D) : Rho := ds.map (fun d => some (.val d)) ++ List.replicate (n - ds.length) none
theorem gt_app : ∀ (ds : List D) (i n : Nat) {sv : Sv}, gt (ds.map (fun d => some (Sv.val d)) ++ List.replicate n none) i = some sv → ∃ d, sv = .val d ∧ ds[i]? = some d
  | [], i, n, sv, h => by
    have key : ∀ (n i : Nat), gt (List.replicate n none) i = none := by
      intro n
      induction n with
      | zero => intro i; rfl
      | succ n ih => intro i; cases i with | zero => rfl | succ i => exact ih i
    have h' : gt (List.replicate n none) i = some sv := h
    rw [key] at h'; cases h'
  | d :: ds, 0, n, sv, h => ⟨d, (Option.some.inj h).symm, rfl⟩
  | d :: ds, i + 1, n, sv, h => by
    obtain ⟨e, h1, h2⟩ := gt_app ds i n (sv := sv) h
    exact ⟨e, h1, by simpa using h2⟩
def objs (O : Own) : Own := fun a => match O a with | some (.obj m) => some (.obj m) | _ => none
theorem objs_of {O : Own} {a : Addr} {o : Ow} (h : objs O a = some o) : ∃ m, o = .obj m ∧ O a = some (.obj m) := by
  unfold objs at h
  split at h
  · rename_i m e
    cases h
    exact ⟨m, rfl, e⟩
  · cases h
theorem objs_to {O : Own} {a m : Addr} (h : O a = some (.obj m)) : objs O a = some (.obj m) := by
  unfold objs
  rw [h]
/-- at the beginning of a def -/
theorem Wd.enter {ds : List D} {vs : List V} {N : List Str} (A : Wd K g H M F O) (r : RpL K F ds vs) : Ab K ⟨H, F, fun a => ∃ m, O a = some (.obj m), []⟩ (L2.start N vs) H (startR N.length ds) M F (objs O) :=
  { sub := A.sub, ext0 := Same.refl F, new := fun a o e => .inl e, frm := fun a o e _ => e, thr := fun a o e => ⟨o, e⟩
    liv := fun a o e => by
      obtain ⟨m, rfl, e1⟩ := objs_of e
      obtain ⟨h1, h2, _⟩ := A.liv a _ e1
      exact ⟨h1, h2, .inl ⟨m, e1⟩⟩
    slo := fun a o e n => by
      obtain ⟨m, rfl, e1⟩ := objs_of e
      exact absurd rfl (n m)
    tm := fun p l e => absurd e (by simp)
    mu := fun a mo e => (A.mu a mo e).mono (Same.refl F) fun q u e1 e2 => ⟨e1, objs_to e2⟩
    len := by
      unfold startR L2.start
      rw [List.length_append, List.length_append, List.length_map, List.length_map, List.length_replicate, List.length_replicate, r.len]
    sl := fun i sv e => by
      obtain ⟨d, rfl, e1⟩ := gt_app ds i _ e
      obtain ⟨v, e2, r2⟩ := r.get e1
      refine ⟨v, ?_, r2⟩
      unfold L2.start
      have hi : i < vs.length := (List.getElem?_eq_some_iff.mp e2).1
      rw [List.getElem?_append_left (by simpa using hi), List.getElem?_map, e2]
      rfl }
/-- what is known of fewer things -/
def MLe (M' M : Mm) : Prop := ∀ a mo, M' a = some mo → M a = some mo
theorem MLe.refl (M : Mm) : MLe M M := fun _ _ h => h
/-- at the end of a def -/
theorem Ab.leave {H0 : Hp} {F0 : Hp} {w : Addr → Prop} (A : Ab K ⟨H0, F0, w, []⟩ σ H ρ M F O) (h : MLe M' M) : Wd K ⟨H0, F0, w, []⟩ H M' F (objs O) ∧ ∀ a o, objs O a = some o → ∃ m, o = .obj m := by
  refine ⟨?_, fun a o e => let ⟨m, e1, _⟩ := objs_of e; ⟨m, e1⟩⟩
  exact { sub := A.sub, ext0 := A.ext0, new := A.new, frm := A.frm, thr := A.thr
          liv := fun a o e => by
            obtain ⟨m, rfl, e1⟩ := objs_of e
            exact A.liv a _ e1
          slo := fun a o e n => by
            obtain ⟨m, rfl, e1⟩ := objs_of e
            exact absurd rfl (n m)
          tm := fun p l e => absurd e (by simp)
          mu := fun a mo e => (A.mu a mo (h a mo e)).mono (Same.refl F) fun q u e1 e2 => ⟨e1, objs_to e2⟩ }
end

/-! ### a def of the text -/
section
variable (P : Program) (w : World) (K : PySem.W.Frag) (mg : Str → Option Value) (base : Heap)
/-- as the layer's FnOk, called where no repr is going on -/
structure FnG (k : Nat) (f : Addr) (fd : FuncData) (ps : List Str) (sp : Sp) : Prop where
  len : ∀ vs H Q E, sp vs H Q E → vs.length = ps.length
  run : ∀ (A : Around) (outer : List Env) (s : Shared) (H : Hp) (args : Args) (us : List Value) (vs : List V) (Q : VK) (E : XK), Room k A → A.guards = some [] → Env0 P w K mg base A outer s H →
    BindsTo s fd args (ps.zip us) → Vals vs us → sp vs H Q E → codeAny (model P w) A (.call (.ref f) args) (CR (L2.CX P w) outer P w H s Q E) s
end
section
variable {P : Program} {w : World} {K : PySem.W.Frag} {mg : Str → Option Value} {base : Heap} {j k : Nat} {f : Addr} {fd : FuncData} {ps N : List Str}
theorem FnG.mono {sp : Sp} (Fg : FnG P w K mg base j f fd ps sp) (h : j ≤ k) : FnG P w K mg base k f fd ps sp := ⟨Fg.len, fun A o s H a us vs Q E r => Fg.run A o s H a us vs Q E (r.mono h)⟩
theorem toSp_len {n : Nat} {sp : PSp} {vs : List V} {H : Hp} {Q : VK} {E : XK} (h : toSp K n sp vs H Q E) : vs.length = n := by
  obtain ⟨_, _, _, _, _, _, _, e, _⟩ := h
  exact e
/-- the wish of a def's body -/
abbrev WE (E : XK) : WX := fun cls d _ H => E cls d H
theorem Fun.gok {x qual : Str} {stm : Stmt} {sp : Sp} (Fn : L2.Fun K x qual stm f fd) (S : FnScope N ps (defScope stm)) (hn : ∀ vs H Q E, sp vs H Q E → vs.length = ps.length)
    (hbody : ∀ (cdv : Value) (A : Around) (outer : List Env) (s : Shared) (H : Hp) (vs : List V) (Q : VK) (E : XK), Room k (A.deeper (envOfC qual (defScope stm) s.heap.objs.size f cdv)) → A.guards = some [] → sp vs H Q E →
      ∃ t : TS, PSs (cxOf (L2.CX P w) P w K mg base N qual (defScope stm) f cdv A outer s H E) (defBody stm) t ∧ t { nx := fun _ H' => Q .non H', rt := Q } (L2.start N vs) H) :
    FnG P w K mg base (k + 1) f fd ps sp := by
  obtain ⟨oc, od, kV, doc, pm, an, cdv, ct, osl, rfl, lk, hcd⟩ := Fn.ex
  refine ⟨hn, fun A outer s H args us vs Q E hr hG e0 hb r hsp => ?_⟩
  have hl : vs.length = ps.length := hn _ _ _ _ hsp
  have KX : K.In s.heap := e0.mod.kin.keeps fun b o e => (e0.bs b o e).1
  have lim : s.heap.NoLimit := e0.mod.nolimit.keeps fun b o e => (e0.bs b o e).1
  have kinds : ∀ y ∈ ps.zip us, (defScope stm).names.lookup y.1 = some .local ∨ ((defScope stm).names.lookup y.1 = some .cell ∧ ((cellsFrom (s.heap.objs.size + 1) (defScope stm).names []).lookup y.1).isSome = true) := by
    rintro ⟨n, v⟩ hy
    rcases S.par n (List.of_mem_zip hy).1 with q | q
    · exact .inl q
    · exact .inr ⟨q, PySem.W.cellsFrom_some _ _ _ (.inl q)⟩
  refine codeAny_call_function hr.depth (KX _ _ lk) rfl S.co S.gen rfl (PySem.W.codeRec_of KX hcd) (hb _ _ _ _ ?_)
  refine wpAny_newFunctionEnv_cells S.kind kinds fun env he s1 x => ?_
  subst he
  refine ⟨lim.keeps x.toInCall.keep, codeAny_func ?_⟩
  obtain ⟨t, ht, hq⟩ := hbody cdv A outer s H vs Q E (hr.deeper _) hG hsp
  have I := inv_start (CX := L2.CX P w) (E := E) (qual := qual) (f := f) (cd := cdv) (A := A) S hr.hd e0 hl r x
  refine wpAny_mono (ht.run [] s1 (L2.start N vs) H { nx := fun _ H' => Q .non H', rt := Q } I hq) (fun fl s' hs => ?_) fun e s' hs => hs
  cases fl with
  | ret u =>
    obtain ⟨v, σ', H', J, rv, q⟩ := hs
    exact ⟨v, H', J.os, J.bare, J.base, J.hok, rv, q⟩
  | next =>
    obtain ⟨σ', H', J, q⟩ := hs
    exact ⟨.non, H', J.os, J.bare, J.base, J.hok, rfl, q⟩
  | brk =>
    obtain ⟨_, _, _, q⟩ := hs
    exact q.elim
  | cont =>
    obtain ⟨_, _, _, q⟩ := hs
    exact q.elim
/-- what a body's reading is to show -/
def Shows (sp : PSp) (N : Nat) (p : PTS) : Prop := ∀ ds M q e, sp ds M q e →
  p (fun cls fs _ M' => ∃ M2, MLe M2 M' ∧ e cls fs M2) { nx := fun _ M' => ∃ M2, MLe M2 M' ∧ q .non M2, rt := fun d M' => ∃ M2, MLe M2 M' ∧ q d M2 } (startR N ds) M
theorem Fun.pok {x qual : Str} {stm : Stmt} {n : Nat} {sp : PSp} {p : PTS} (Fn : L2.Fun K x qual stm f fd) (S : FnScope N ps (defScope stm)) (hn : ps.length = n) (hs : Shows sp N.length p)
    (hbody : ∀ (cdv : Value) (A : Around) (outer : List Env) (s : Shared) (H : Hp) (E : XK), Room k (A.deeper (envOfC qual (defScope stm) s.heap.objs.size f cdv)) → A.guards = some [] →
      DSs (cxOf (L2.CX P w) P w K mg base N qual (defScope stm) f cdv A outer s H E) (WE E) (defBody stm) p) :
    FnG P w K mg base (k + 1) f fd ps (toSp K n sp) := by
  refine Fun.gok Fn S (fun vs H Q E h => by rw [toSp_len h, hn]) fun cdv A outer s H vs Q E hr hG hsp => ⟨_, hbody cdv A outer s H E hr hG, ?_⟩
  obtain ⟨g, F, M, O, ds, q, e, _, A0, rp, hsp, hQ, hE⟩ := hsp
  refine ⟨_, _, _, _, _, _, _, A0.enter (N := N) rp, hs ds M q e hsp, ?_, ?_, ?_, ?_, ?_, ?_⟩
  · intro cls dd σ' H' ρ' M' F' O' fs A2 s2 x2 ⟨M2, h1, h2⟩
    exact hE cls dd H' F' _ M2 fs (A2.leave h1) x2 h2
  · intro σ' H' ρ' M' F' O' A2 s2 ⟨M2, h1, h2⟩
    exact hQ .non H' F' _ M2 .non (A2.leave h1) rfl h2
  · intro v σ' H' ρ' M' F' O' d A2 s2 r2 ⟨M2, h1, h2⟩
    exact hQ v H' F' _ M2 d (A2.leave h1) r2 h2
  · intro σ' H' ρ' M' F' O' A2 s2 z; exact z.elim
  · intro σ' H' ρ' M' F' O' A2 s2 z; exact z.elim
  · intro a xs σ' H' ρ' M' F' O' ds A2 s2 e1 e2 e3 e4 e5 z; exact z.elim
end

/-! ### calls of such defs -/
section
variable {X : Cx} {W : WX} {k n : Nat} {f : Addr} {fd : FuncData} {ps : List Str} {sp : PSp} {x : Str} {p pos : Pos} {e : Expr} {es : List Expr} {pl : PTA} {ds : List Value} {dd : List D} {dvs : List V}
theorem run_g {sp : Sp} {pins : List (Addr × Obj)} {σ : L2.St} {H : Hp} {s : Shared} {Q : VK} {us : List Value} {vs : List V} (Fg : FnG X.prog X.w X.K X.mg X.base k f fd ps sp) (hr : Room k X.A) (hG : X.A.guards = some []) (hb : Binds X.K fd ps ds) (hd : Vals dvs ds)
    (tk : Takes X W) (I : Inv X pins σ H s) (r : Vals vs us) (h : sp (vs ++ dvs) H Q (fun cls d H' => W cls d σ H')) : wpAny (model X.prog X.w) X.A (call (.ref f) us) (EP X pins σ Q) X.xe s := by
  have r2 : Vals (vs ++ dvs) (us ++ ds) := r.append hd
  have hl : (us ++ ds).length = ps.length := by rw [← r2.length]; exact Fg.len _ _ _ _ h
  refine wpAny_call (codeAny_mono (Fg.run X.A X.stack s H ⟨us, []⟩ (us ++ ds) (vs ++ dvs) Q _ hr hG I.env0 (hb s us I.kIn hl) r2 h) fun r s' hq => ?_)
  cases r with
  | error e => exact tk e s' (XE.of_call I (fun _ _ _ h => h) hq)
  | ok fl =>
    cases fl with
    | ret u => exact I.after hq
    | next => exact hq.elim
    | brk => exact hq.elim
    | cont => exact hq.elim
def dCall (sp : PSp) (dd : List D) (pl : PTA) : PTE := fun w ρ M q => pl w ρ M fun ds M1 => sp (ds ++ dd) M1 q fun cls fs M2 => w cls fs ρ M2
theorem call_reading {K : PySem.W.Frag} {g : Gh} {σ : L2.St} {H : Hp} {ρ : Rho} {M : Mm} {F : Hp} {O : Own} {w : PWi} {q : PQ} {ds : List D} {vs : List V} {Q : VK} (hn : ps.length = n) (hd : ∀ F, RpL K F dd dvs) (A : Ab K g σ H ρ M F O) (hw : WOk K g F W w)
    (r : RpL K F ds vs) (hl : (ds ++ dd).length = n) (h : sp (ds ++ dd) M q fun cls fs M2 => w cls fs ρ M2) (k : ∀ v H' F' O' M' d, Ab K g σ H' ρ M' F' O' → Same F F' → Rp K F' d v → q d M' → Q v H') :
    toSp K n sp (vs ++ dvs) H Q fun cls d H' => W cls d σ H' := by
  have r2 := r.app (hd F)
  refine ⟨g, F, M, O, ds ++ dd, q, _, by rw [← hl, r2.len], A.toWd, r2, h, fun v H' F' O' M' d B rd hq => ?_, fun cls dd H' F' O' M' fs B x hq => ?_⟩
  · obtain ⟨O2, A2, s⟩ := A.after B
    exact k v H' F' O2 M' d A2 s rd hq
  · obtain ⟨O2, A2, s⟩ := A.after B
    exact hw cls dd σ H' ρ M' F' O2 fs A2 s x hq
theorem de_callD (Fg : FnG X.prog X.w X.K X.mg X.base k f fd ps (toSp X.K n sp)) (hn : ps.length = n) (hlen : ∀ ds M q e, sp ds M q e → ds.length = n) (hr : Room k X.A) (hG : X.A.guards = some []) (hg : Gl X x) (hm : X.mg x = some (.ref f))
    (hk : PySem.W.keepIn X.K (.ref f) = true) (hb : Binds X.K fd ps ds) (hv : Vals dvs ds) (hd : ∀ F, RpL X.K F dd dvs) (tk : Takes X W) (ha : DA X W (e :: es) pl) (hdb : (x == ("__debug__" : Str)) = false := by decide)
    (he : starEach (e :: es) X.env = (false, eval e X.env) :: starEach es X.env := by rfl) (hpl : (backTo pos (starEach es X.env)).any (·.1) = false := by rfl) : DE X W (.Call (.Name x p) (e :: es) [] pos) (dCall sp dd pl) := by
  refine ⟨fun pins s σ H Q I ⟨g, ρ, M, F, O, q, w, A, pr, hw, k⟩ => ?_⟩
  refine wpAny_Call_Name_kw (ld_glob I hg hm ?_ hdb)
  refine PySem.W.callWith_K (h₀ := X.base) I.ok.mod.kin hk (thn (ha.run pos pins s σ H (fun vs H1 => toSp X.K n sp (vs ++ dvs) H1 Q fun cls d H' => W cls d σ H') I ?_) fun us s1 hh => ?_) he hpl
  · exact ⟨g, ρ, M, F, O, _, w, A, pr, hw, fun vs H1 F1 O1 M1 d1 A1 s1 r1 q1 => call_reading hn hd A1 (hw.mono s1) r1 (hlen _ _ _ _ q1) q1 fun v H2 F2 O2 M2 d2 A2 s2 r2 q2 => k v H2 F2 O2 M2 d2 A2 (s1.trans s2) r2 q2⟩
  · obtain ⟨vs, H1, I1, r, q1⟩ := hh
    exact ⟨I1.kIn, run_g Fg hr hG hb hv tk I1 r q1⟩
theorem de_call (Fg : FnG X.prog X.w X.K X.mg X.base k f fd ps (toSp X.K n sp)) (hn : ps.length = n) (hlen : ∀ ds M q e, sp ds M q e → ds.length = n) (hr : Room k X.A) (hG : X.A.guards = some []) (hg : Gl X x) (hm : X.mg x = some (.ref f))
    (hk : PySem.W.keepIn X.K (.ref f) = true) (hb : Binds X.K fd ps []) (tk : Takes X W) (ha : DA X W (e :: es) pl) (hdb : (x == ("__debug__" : Str)) = false := by decide)
    (he : starEach (e :: es) X.env = (false, eval e X.env) :: starEach es X.env := by rfl) (hpl : (backTo pos (starEach es X.env)).any (·.1) = false := by rfl) : DE X W (.Call (.Name x p) (e :: es) [] pos) (dCall sp [] pl) :=
  de_callD Fg hn hlen hr hG hg hm hk hb .nil (fun _ => rfl) tk ha hdb he hpl
end
end Px

set_option Elab.async false
set_option linter.all false
set_option maxRecDepth 100000
namespace Px
open PySem PySem.Spec PyProof.Rows L2

/-! ## statements -/
section
variable {X : Cx} {W : WX} {st1 : Stmt} {rest ss tt : List Stmt} {e c : Expr} {pe : PTE} {pl : PTA} {pt : PTT} {p p2 : PTS} {pos : Pos}
def dNext : PTS := fun _ P ρ M => P.nx ρ M
def dSeq (p q : PTS) : PTS := fun w P ρ M => p w { P with nx := q w P } ρ M
theorem dss_nil : DSs X W [] dNext := pss_imp pss_nil fun D σ H ⟨g, ρ, M, F, O, P, w, A, h, hw, k1, _⟩ => k1 σ H ρ M F O A (Same.refl F) h
theorem dss_one (h : DS X W st1 p) : DSs X W [st1] p := pss_one h
theorem dss_cons (h1 : DS X W st1 p) (h2 : DSs X W rest p2) : DSs X W (st1 :: rest) (dSeq p p2) := pss_imp (pss_cons h1 h2) fun D σ H ⟨g, ρ, M, F, O, P, w, A, h, hw, k1, k2, k3, k4, k5⟩ =>
  ⟨g, ρ, M, F, O, _, w, A, h, hw, fun σ' H' ρ' M' F' O' A' s q => ⟨g, ρ', M', F', O', P, w, A', q, hw.mono s,
      fun σ2 H2 ρ2 M2 F2 O2 A2 s2 q2 => k1 σ2 H2 ρ2 M2 F2 O2 A2 (s.trans s2) q2, fun v σ2 H2 ρ2 M2 F2 O2 d A2 s2 r2 q2 => k2 v σ2 H2 ρ2 M2 F2 O2 d A2 (s.trans s2) r2 q2,
      fun σ2 H2 ρ2 M2 F2 O2 A2 s2 q2 => k3 σ2 H2 ρ2 M2 F2 O2 A2 (s.trans s2) q2, fun σ2 H2 ρ2 M2 F2 O2 A2 s2 q2 => k4 σ2 H2 ρ2 M2 F2 O2 A2 (s.trans s2) q2, fun a xs σ2 H2 ρ2 M2 F2 O2 ds A2 s2 e1 e2 e3 e4 e5 q2 => k5 a xs σ2 H2 ρ2 M2 F2 O2 ds A2 (s.trans s2) e1 e2 e3 e4 e5 q2⟩, k2, k3, k4, k5⟩
theorem ds_pass : DS X W (.Pass pos) dNext := ps_imp ps_pass fun D σ H ⟨g, ρ, M, F, O, P, w, A, h, hw, k1, _⟩ => k1 σ H ρ M F O A (Same.refl F) h
def dRet (pe : PTE) : PTS := fun w P ρ M => pe w ρ M P.rt
theorem ds_ret (h : DE X W e pe) : DS X W (.Return (some e) pos) (dRet pe) := ps_imp (ps_ret h) fun D σ H ⟨g, ρ, M, F, O, P, w, A, h, hw, k1, k2, _⟩ =>
  ⟨g, ρ, M, F, O, _, w, A, h, hw, fun v H' F' O' M' d A' s r q => k2 v σ H' ρ M' F' O' d A' s r q⟩
def dRetN : PTS := fun _ P _ M => P.rt .non M
theorem ds_retN : DS X W (.Return none pos) dRetN := ps_imp ps_retN fun D σ H ⟨g, ρ, M, F, O, P, w, A, h, hw, k1, k2, _⟩ => k2 .non σ H ρ M F O .non A (Same.refl F) rfl h
def dDrop (pe : PTE) : PTS := fun w P ρ M => pe w ρ M fun _ M' => P.nx ρ M'
theorem ds_expr (h : DE X W e pe) (hs : swapsWith e none pos.line X.env = pure false := by rfl) : DS X W (.Expr e pos) (dDrop pe) := ps_imp (ps_expr h hs) fun D σ H ⟨g, ρ, M, F, O, P, w, A, h, hw, k1, k2, _⟩ =>
  ⟨g, ρ, M, F, O, _, w, A, h, hw, fun v H' F' O' M' d A' s r q => k1 σ H' ρ M' F' O' A' s q⟩
def dIfS (pt : PTT) (p q : PTS) : PTS := fun w P ρ M => pt w ρ M fun b M' => if b = true then p w P ρ M' else q w P ρ M'
theorem ds_if (hc : DT X W c pt) (ha : DSs X W ss p) (hb : DSs X W tt p2) : DS X W (.If c ss tt pos) (dIfS pt p p2) := ps_imp (ps_if hc ha hb) fun D σ H ⟨g, ρ, M, F, O, P, w, A, h, hw, k1, k2, k3, k4, k5⟩ =>
  ⟨g, ρ, M, F, O, _, w, A, h, hw, fun b H' F' O' M' A' s q => by
    cases b with
    | true => exact ⟨g, ρ, M', F', O', P, w, A', q, hw.mono s, fun σ2 H2 ρ2 M2 F2 O2 A2 s2 q2 => k1 σ2 H2 ρ2 M2 F2 O2 A2 (s.trans s2) q2, fun v σ2 H2 ρ2 M2 F2 O2 d A2 s2 r2 q2 => k2 v σ2 H2 ρ2 M2 F2 O2 d A2 (s.trans s2) r2 q2,
      fun σ2 H2 ρ2 M2 F2 O2 A2 s2 q2 => k3 σ2 H2 ρ2 M2 F2 O2 A2 (s.trans s2) q2, fun σ2 H2 ρ2 M2 F2 O2 A2 s2 q2 => k4 σ2 H2 ρ2 M2 F2 O2 A2 (s.trans s2) q2, fun a xs σ2 H2 ρ2 M2 F2 O2 ds A2 s2 e1 e2 e3 e4 e5 q2 => k5 a xs σ2 H2 ρ2 M2 F2 O2 ds A2 (s.trans s2) e1 e2 e3 e4 e5 q2⟩
    | false => exact ⟨g, ρ, M', F', O', P, w, A', q, hw.mono s, fun σ2 H2 ρ2 M2 F2 O2 A2 s2 q2 => k1 σ2 H2 ρ2 M2 F2 O2 A2 (s.trans s2) q2, fun v σ2 H2 ρ2 M2 F2 O2 d A2 s2 r2 q2 => k2 v σ2 H2 ρ2 M2 F2 O2 d A2 (s.trans s2) r2 q2,
      fun σ2 H2 ρ2 M2 F2 O2 A2 s2 q2 => k3 σ2 H2 ρ2 M2 F2 O2 A2 (s.trans s2) q2, fun σ2 H2 ρ2 M2 F2 O2 A2 s2 q2 => k4 σ2 H2 ρ2 M2 F2 O2 A2 (s.trans s2) q2, fun a xs σ2 H2 ρ2 M2 F2 O2 ds A2 s2 e1 e2 e3 e4 e5 q2 => k5 a xs σ2 H2 ρ2 M2 F2 O2 ds A2 (s.trans s2) e1 e2 e3 e4 e5 q2⟩⟩

/-! ### targets -/
abbrev PTG := D → Rho → (Rho → Prop) → Prop
abbrev PTGs := List D → Rho → (Rho → Prop) → Prop
def realG (K : PySem.W.Frag) (is : List Nat) (gd : PTG) : TG := fun v σ H Q => ∃ g ρ M F O d k, Ab K g σ H ρ M F O ∧ Rp K F d v ∧ gd d ρ k ∧
  ∀ σ' ρ', Ab K g σ' H ρ' M F O → (∀ j, j ∉ is → σ'[j]? = σ[j]? ∧ gt ρ' j = gt ρ j) → σ'.length = σ.length → k ρ' → Q σ' H
def realGs (K : PySem.W.Frag) (is : List Nat) (gd : PTGs) : TGs := fun vs σ H Q => ∃ g ρ M F O ds k, Ab K g σ H ρ M F O ∧ RpL K F ds vs ∧ gd ds ρ k ∧
  ∀ σ' ρ', Ab K g σ' H ρ' M F O → (∀ j, j ∉ is → σ'[j]? = σ[j]? ∧ gt ρ' j = gt ρ j) → σ'.length = σ.length → k ρ' → Q σ' H
abbrev DG (X : Cx) (tg : Expr) (is : List Nat) (gd : PTG) : Prop := PG X tg (realG X.K is gd)
abbrev DGs (X : Cx) (tgs : List Expr) (is : List Nat) (gd : PTGs) : Prop := PGs X tgs (realGs X.K is gd)
theorem pg_imp {tg : Expr} {t t' : TG} (h : PG X tg t) (i : ∀ v σ H Q, t' v σ H Q → t v σ H Q) : PG X tg t' := ⟨fun pins s σ H v u Q I r hw => h.run pins s σ H v u Q I r (i v σ H Q hw)⟩
theorem pgs_imp {tgs : List Expr} {t t' : TGs} (h : PGs X tgs t) (i : ∀ v σ H Q, t' v σ H Q → t v σ H Q) : PGs X tgs t' := ⟨fun pins s σ H v u Q I r hw => h.run pins s σ H v u Q I r (i v σ H Q hw)⟩
def gNm (i : Nat) : PTG := fun d ρ k => k (st ρ i (.val d))
theorem dg_nm (i : Nat) {x : Str} (hN : X.N.Nodup) (hi : X.N[i]? = some x := by rfl) (hx : Loc X.env.scope x := by first | exact Or.inl rfl | exact Or.inr rfl) (hf : X.fn x = true ∨ X.env.scope.names.lookup x = some .local := by first | exact .inl rfl | exact .inr rfl) :
    DG X (.Name x pos) [i] (gNm i) := pg_imp (pg_name hN hi hx hf) fun v σ H Q ⟨g, ρ, M, F, O, d, k, A, r, h, q⟩ =>
  q _ _ (A.put r) (fun j hj => ⟨List.getElem?_set_ne (by intro z; exact hj (by simp [z])), gt_st_ne (by intro z; exact hj (by simp [z]))⟩) (List.length_set ..) h
def gsNil : PTGs := fun ds ρ k => match ds with | [] => k ρ | _ => False
def gsCons (gd : PTG) (gs : PTGs) : PTGs := fun ds ρ k => match ds with | d :: r => gd d ρ fun ρ' => gs r ρ' k | _ => False
theorem dgs_nil : DGs X [] [] gsNil := pgs_imp pgs_nil fun vs σ H Q ⟨g, ρ, M, F, O, ds, k, A, r, h, q⟩ => by
  cases ds with
  | nil => exact ⟨r, q σ ρ A (fun _ _ => ⟨rfl, rfl⟩) rfl h⟩
  | cons d r => exact (show False from h).elim
theorem dgs_cons {tg : Expr} {tgs : List Expr} {i1 i2 : List Nat} {gd : PTG} {gs : PTGs} (h1 : DG X tg i1 gd) (h2 : DGs X tgs i2 gs) (hs : (assignEach (tg :: tgs) X.env).map (·.2) = assign tg X.env :: (assignEach tgs X.env).map (·.2) := by rfl) : DGs X (tg :: tgs) (i1 ++ i2) (gsCons gd gs) :=
  pgs_imp (pgs_cons h1 h2 hs) fun vs σ H Q ⟨g, ρ, M, F, O, ds, k, A, r, h, q⟩ => by
    cases ds with
    | nil => exact (show False from h).elim
    | cons d ds =>
      obtain ⟨x, xs, e, rd, rl⟩ := r
      exact ⟨x, xs, e, g, ρ, M, F, O, d, _, A, rd, h, fun σ' ρ' A' n1 l1 h' => ⟨g, ρ', M, F, O, ds, k, A', rl, h', fun σ2 ρ2 A2 n2 l2 h2 =>
        q σ2 ρ2 A2 (fun j hj => ⟨(n2 j fun z => hj (List.mem_append_right _ z)).1.trans (n1 j fun z => hj (List.mem_append_left _ z)).1, (n2 j fun z => hj (List.mem_append_right _ z)).2.trans (n1 j fun z => hj (List.mem_append_left _ z)).2⟩) (l2.trans l1) h2⟩⟩
def gTp (n : Nat) (gs : PTGs) : PTG := fun d ρ k => match d with | .tup l => l.length = n ∧ gs l ρ k | _ => False
theorem dg_tup {es : List Expr} {k : Nat} {n : Nat} {is : List Nat} {gs : PTGs} (hc : X.calm = true) (h : DGs X es is gs) (hn : (assignEach es X.env).length = n := by rfl) (hst : (assignEach es X.env).findIdx? (·.1) = none := by rfl) : DG X (.Tuple es k pos) is (gTp n gs) :=
  pg_imp (pg_tup hc h hn hst) fun v σ H Q ⟨g, ρ, M, F, O, d, k, A, r, h, q⟩ => by
    cases d with
    | tup l =>
      obtain ⟨a, xs, e, s, rl⟩ := r
      exact ⟨a, xs, e, same_t A.sub s, by rw [← rl.len]; exact h.1, g, ρ, M, F, O, l, k, A, rl, h.2, q⟩
    | _ => exact (show False from h).elim

/-! ### assignments -/
def dAsg (pe : PTE) (gd : PTG) : PTS := fun w P ρ M => pe w ρ M fun d M' => gd d ρ fun ρ' => P.nx ρ' M'
theorem ds_asg {tg : Expr} {is : List Nat} {gd : PTG} (he : DE X W e pe) (hg : DG X tg is gd) (hs : swapsWithSole [tg] e pos.line X.env = pure false := by rfl) (hw : swappedStores [tg] e X.env = pure none := by rfl)
    (h1 : (assignEach [tg] X.env).map (·.2) = [assign tg X.env] := by rfl) : DS X W (.Assign [tg] e pos) (dAsg pe gd) := ps_imp (ps_asg he hg hs hw h1) fun D σ H ⟨g, ρ, M, F, O, P, w, A, h, hw, k1, _⟩ =>
  ⟨g, ρ, M, F, O, _, w, A, h, hw, fun v H' F' O' M' d A' s r q => ⟨g, ρ, M', F', O', d, _, A', r, q, fun σ' ρ' A2 _ _ q2 => k1 σ' H' ρ' M' F' O' A2 s q2⟩⟩
def dSet (i : Nat) (pe : PTE) : PTS := fun w P ρ M => pe w ρ M fun d M' => P.nx (st ρ i (.val d)) M'
theorem ds_set (i : Nat) {x : Str} {pos' : Pos} (hN : X.N.Nodup) (he : DE X W e pe) (hi : X.N[i]? = some x := by rfl) (hx : Loc X.env.scope x := by first | exact Or.inl rfl | exact Or.inr rfl) (hs : swapsWith e (some (.Name x pos')) pos.line X.env = pure false := by rfl)
    (hf : X.fn x = true ∨ X.env.scope.names.lookup x = some .local := by first | exact .inl rfl | exact .inr rfl) : DS X W (.Assign [.Name x pos'] e pos) (dSet i pe) := ps_imp (ps_set hN hi hx he hs hf) fun D σ H ⟨g, ρ, M, F, O, P, w, A, h, hw, k1, _⟩ =>
  ⟨g, ρ, M, F, O, _, w, A, h, hw, fun v H' F' O' M' d A' s r q => k1 _ H' _ M' F' O' (A'.put r) s q⟩
/-- a name that is given a new list of its own -/
def dSetO (i : Nat) (pl : PTA) : PTS := fun w P ρ M => pl w ρ M fun ds M' => P.nx (st ρ i (.own ds)) M'
theorem ds_setO (i : Nat) {x : Str} {pos' : Pos} (hN : X.N.Nodup) (he : DL X W e pl) (hi : X.N[i]? = some x := by rfl) (hx : Loc X.env.scope x := by first | exact Or.inl rfl | exact Or.inr rfl) (hs : swapsWith e (some (.Name x pos')) pos.line X.env = pure false := by rfl)
    (hf : X.fn x = true ∨ X.env.scope.names.lookup x = some .local := by first | exact .inl rfl | exact .inr rfl) : DS X W (.Assign [.Name x pos'] e pos) (dSetO i pl) := ps_imp (ps_set hN hi hx he hs hf) fun D σ H ⟨g, ρ, M, F, O, P, w, A, h, hw, k1, _⟩ =>
  ⟨g, ρ, M, F, O, _, w, A, h, hw, fun a xs H' F' O' M' ds A' s hH r hF hO h0 q => k1 _ H' _ M' F' _ (A'.putOwn hH r hF hO h0) s q⟩
def ls2 (ds : List D) (k : D → D → Prop) : Prop := match ds with | [a, b] => k a b | _ => False
def ls3 (ds : List D) (k : D → D → D → Prop) : Prop := match ds with | [a, b, c] => k a b c | _ => False
theorem ls2_of {ds : List D} {k : D → D → Prop} (h : ls2 ds k) : ∃ a b, ds = [a, b] ∧ k a b := by
  unfold ls2 at h
  split at h
  · exact ⟨_, _, rfl, h⟩
  · exact h.elim
theorem ls3_of {ds : List D} {k : D → D → D → Prop} (h : ls3 ds k) : ∃ a b c, ds = [a, b, c] ∧ k a b c := by
  unfold ls3 at h
  split at h
  · exact ⟨_, _, _, rfl, h⟩
  · exact h.elim
/-- a, b = x, y -/
def dPar (i j : Nat) (pl : PTA) : PTS := fun w P ρ M => pl w ρ M fun ds M' => ls2 ds fun a b => P.nx (st (st ρ i (.val a)) j (.val b)) M'
theorem ds_par (i j : Nat) {x y : Str} {a b : Expr} {px py pt : Pos} {kt k2 pt2} (hc : X.calm = true) (hN : X.N.Nodup) (ha : DA X W [a, b] pl) (hi : X.N[i]? = some x := by rfl) (hj : X.N[j]? = some y := by rfl) (hij : i ≠ j := by decide)
    (hx : X.env.scope.names.lookup x = some .local := by rfl) (hy : X.env.scope.names.lookup y = some .local := by rfl)
    (hw : swappedStores [.Tuple [.Name x px, .Name y py] kt pt] (.Tuple [a, b] k2 pt2) X.env = pure (some [x, y]) := by rfl)
    (hs : swapsWithSole [.Tuple [.Name x px, .Name y py] kt pt] (.Tuple [a, b] k2 pt2) pos.line X.env = pure false := by rfl) : DS X W (.Assign [.Tuple [.Name x px, .Name y py] kt pt] (.Tuple [a, b] k2 pt2) pos) (dPar i j pl) :=
  ps_imp (ps_par hc hN hi hj hij hx hy ha hw hs) fun D σ H ⟨g, ρ, M, F, O, P, w, A, h, hw, k1, _⟩ =>
  ⟨g, ρ, M, F, O, _, w, A, h, hw, fun vs H' F' O' M' ds A' s r q => by
      obtain ⟨a, b, rfl, q⟩ := ls2_of q
      obtain ⟨v, x1, e1, ra, u, x2, e2, rb, e3⟩ := r
      have e3 : x2 = [] := e3
      subst e3 e2 e1
      exact ⟨v, u, rfl, k1 _ H' _ M' F' O' ((A'.put ra).put rb) s q⟩⟩
def dPar3 (i j l : Nat) (pl : PTA) : PTS := fun w P ρ M => pl w ρ M fun ds M' => ls3 ds fun a b c => P.nx (st (st (st ρ i (.val a)) j (.val b)) l (.val c)) M'
theorem ds_par3 (i j l : Nat) {x y z : Str} {a b c : Expr} {px py pz pt : Pos} {kt k2 pt2} (hc : X.calm = true) (hN : X.N.Nodup) (ha : DA X W [a, b, c] pl) (hi : X.N[i]? = some x := by rfl) (hj : X.N[j]? = some y := by rfl) (hl : X.N[l]? = some z := by rfl)
    (hij : i ≠ j := by decide) (hil : i ≠ l := by decide) (hjl : j ≠ l := by decide)
    (hx : X.env.scope.names.lookup x = some .local := by rfl) (hy : X.env.scope.names.lookup y = some .local := by rfl) (hz : X.env.scope.names.lookup z = some .local := by rfl)
    (hw : swappedStores [.Tuple [.Name x px, .Name y py, .Name z pz] kt pt] (.Tuple [a, b, c] k2 pt2) X.env = pure (some [x, y, z]) := by rfl)
    (hs : swapsWithSole [.Tuple [.Name x px, .Name y py, .Name z pz] kt pt] (.Tuple [a, b, c] k2 pt2) pos.line X.env = pure false := by rfl) :
    DS X W (.Assign [.Tuple [.Name x px, .Name y py, .Name z pz] kt pt] (.Tuple [a, b, c] k2 pt2) pos) (dPar3 i j l pl) :=
  ps_imp (ps_par3 hc hN hi hj hl hij hil hjl hx hy hz ha hw hs) fun D σ H ⟨g, ρ, M, F, O, P, w, A, h, hw, k1, _⟩ =>
  ⟨g, ρ, M, F, O, _, w, A, h, hw, fun vs H' F' O' M' ds A' s r q => by
      obtain ⟨a, b, c, rfl, q⟩ := ls3_of q
      obtain ⟨v, x1, e1, ra, u, x2, e2, rb, t, x3, e3, rc, e4⟩ := r
      have e4 : x3 = [] := e4
      subst e4 e3 e2 e1
      exact ⟨v, u, t, rfl, k1 _ H' _ M' F' O' (((A'.put ra).put rb).put rc) s q⟩⟩
/-- the list that a slot holds alone is data from here on -/
def dFrz (i : Nat) (p : PTS) : PTS := fun w P ρ M => match gt ρ i with | some (.own l) => p w P (st ρ i (.val (.lst l))) M | _ => p w P ρ M
theorem frz_run {K : PySem.W.Frag} {i : Nat} {D : Ends} {σ : L2.St} {H : Hp} (h : realS K W (dFrz i p) D σ H) : realS K W p D σ H := by
  obtain ⟨g, ρ, M, F, O, P, w, A, h, hw, k1, k2, k3, k4, k5⟩ := h
  unfold dFrz at h
  split at h
  · rename_i l e
    obtain ⟨F', O', A', s⟩ := A.frz e
    exact ⟨g, _, M, F', O', P, w, A', h, hw.mono s, fun σ2 H2 ρ2 M2 F2 O2 A2 s2 q2 => k1 σ2 H2 ρ2 M2 F2 O2 A2 (s.trans s2) q2, fun v σ2 H2 ρ2 M2 F2 O2 d A2 s2 r2 q2 => k2 v σ2 H2 ρ2 M2 F2 O2 d A2 (s.trans s2) r2 q2,
      fun σ2 H2 ρ2 M2 F2 O2 A2 s2 q2 => k3 σ2 H2 ρ2 M2 F2 O2 A2 (s.trans s2) q2, fun σ2 H2 ρ2 M2 F2 O2 A2 s2 q2 => k4 σ2 H2 ρ2 M2 F2 O2 A2 (s.trans s2) q2, fun a xs σ2 H2 ρ2 M2 F2 O2 ds A2 s2 e1 e2 e3 e4 e5 q2 => k5 a xs σ2 H2 ρ2 M2 F2 O2 ds A2 (s.trans s2) e1 e2 e3 e4 e5 q2⟩
  · exact ⟨g, ρ, M, F, O, P, w, A, h, hw, k1, k2, k3, k4, k5⟩
theorem ds_frz (i : Nat) (h : DS X W st1 p) : DS X W st1 (dFrz i p) := ps_imp h fun D σ H hh => frz_run hh
theorem dss_frz (i : Nat) (h : DSs X W ss p) : DSs X W ss (dFrz i p) := pss_imp h fun D σ H hh => frz_run hh

/-! ### while -/
def dWhile (pt : PTT) (pb : PTS) : PTS := fun w P ρ M => ∃ V : Nat → Rho → Mm → Prop, (∃ m, V m ρ M) ∧ ∀ m ρ M, V m ρ M → pt w ρ M fun b M' =>
  if b = true then pb w { P with nx := fun ρ2 M2 => ∃ m', m' < m ∧ V m' ρ2 M2, ct := fun ρ2 M2 => ∃ m', m' < m ∧ V m' ρ2 M2, bk := P.nx } ρ M' else P.nx ρ M'
theorem ds_while (hp : PassesOwn (model X.prog X.w) X.A X.env X.xe) (hc : DT X W c pt) (hb : DSs X W ss p) : DS X W (.While c ss [] pos) (dWhile pt p) := ps_imp (ps_while hp hc hb) fun D σ H ⟨g, ρ, M, F, O, P, w, A, ⟨V, ⟨m0, v0⟩, turn⟩, hw, k1, k2, k3, k4, k5⟩ => by
  refine ⟨fun m σ' H' => ∃ ρ' M' F' O', Ab X.K g σ' H' ρ' M' F' O' ∧ Same F F' ∧ V m ρ' M', ⟨m0, ρ, M, F, O, A, Same.refl F, v0⟩, ?_⟩
  rintro m σ1 H1 ⟨ρ1, M1, F1, O1, A1, s1, v1⟩
  refine ⟨g, ρ1, M1, F1, O1, _, w, A1, turn m ρ1 M1 v1, hw.mono s1, fun b H2 F2 O2 M2 A2 s2 q => ?_⟩
  cases b with
  | true =>
    rw [if_pos rfl] at q ⊢
    refine ⟨fun σ' H' => ∃ m', m' < m ∧ ∃ ρ' M' F' O', Ab X.K g σ' H' ρ' M' F' O' ∧ Same F F' ∧ V m' ρ' M', fun σ' H' h => h, ?_⟩
    refine ⟨g, ρ1, M2, F2, O2, _, w, A2, q, (hw.mono s1).mono s2, ?_, ?_, ?_, ?_, fun a xs σ3 H3 ρ3 M3 F3 O3 ds A3 s3 e1 e2 e3 e4 e5 q3 => k5 a xs σ3 H3 ρ3 M3 F3 O3 ds A3 ((s1.trans s2).trans s3) e1 e2 e3 e4 e5 q3⟩
    · intro σ3 H3 ρ3 M3 F3 O3 A3 s3 ⟨m', hm, v3⟩
      exact ⟨m', hm, ρ3, M3, F3, O3, A3, (s1.trans s2).trans s3, v3⟩
    · intro v σ3 H3 ρ3 M3 F3 O3 d A3 s3 r3 q3
      exact k2 v σ3 H3 ρ3 M3 F3 O3 d A3 ((s1.trans s2).trans s3) r3 q3
    · intro σ3 H3 ρ3 M3 F3 O3 A3 s3 q3
      exact k1 σ3 H3 ρ3 M3 F3 O3 A3 ((s1.trans s2).trans s3) q3
    · intro σ3 H3 ρ3 M3 F3 O3 A3 s3 ⟨m', hm, v3⟩
      exact ⟨m', hm, ρ3, M3, F3, O3, A3, (s1.trans s2).trans s3, v3⟩
  | false =>
    rw [if_neg Bool.false_ne_true] at q ⊢
    exact k1 σ1 H2 ρ1 M2 F2 O2 A2 (s1.trans s2) q
end

/-! ### what is walked -/
structure Wk (K : PySem.W.Frag) (J : It) (F : Hp) (ds : List D) : Prop where
  go : ∀ g σ ρ M F' O H i, Ab K g σ H ρ M F' O → Same F F' → i < ds.length → J.go i H
  yl : ∀ g σ ρ M F' O H i x H' d, Ab K g σ H ρ M F' O → Same F F' → J.yld i H x H' → ds[i]? = some d → ∃ F2, Ab K g σ H' ρ M F2 O ∧ Same F' F2 ∧ Rp K F2 d x
  sp : ∀ g σ ρ M F' O H, Ab K g σ H ρ M F' O → Same F F' → J.stop ds.length H
def realI (K : PySem.W.Frag) (W : WX) (p : PTA) : TI := fun σ H R => ∃ g ρ M F O q w, Ab K g σ H ρ M F O ∧ p w ρ M q ∧ WOk K g F W w ∧
  ∀ J H' F' O' M' ds, Ab K g σ H' ρ M' F' O' → Same F F' → Wk K J F' ds → q ds M' → R J H'
abbrev DI (X : Cx) (W : WX) (tg e : Expr) (p : PTA) : Prop := PI X tg e (realI X.K W p)
section
variable {X : Cx} {W : WX} {tg e a b : Expr} {pe pa pb : PTE} {pl : PTA} {pos p : Pos}
theorem pi_imp {t t' : TI} (h : PI X tg e t) (i : ∀ σ H R, t' σ H R → t σ H R) : PI X tg e t' := ⟨fun pins s σ H R I hw => h.run pins s σ H R I (i σ H R hw)⟩
theorem wk_list {K : PySem.W.Frag} {F : Hp} {a : Addr} {xs : List V} {ds : List D} (h : SqL K F a xs) (r : RpL K F ds xs) : Wk K (Itl K a) F ds where
  go := fun g σ ρ M F' O H i A s hi => ⟨xs, xs[i]'(by rw [← r.len]; exact hi), same_l (s.trans A.sub) h, List.getElem?_eq_getElem _⟩
  yl := fun g σ ρ M F' O H i x H' d A s ⟨e, hx⟩ hd => by
    obtain ⟨y, h1, h2⟩ := r.get hd
    have e2 := hx xs (same_l (s.trans A.sub) h)
    rw [h1] at e2
    cases e2
    exact ⟨F', by rw [e]; exact A, Same.refl F', Rp.mono s _ _ h2⟩
  sp := fun g σ ρ M F' O H A s => ⟨xs, same_l (s.trans A.sub) h, Nat.le_of_eq r.len.symm⟩
theorem wk_tup {K : PySem.W.Frag} {F : Hp} {a : Addr} {xs : List V} {ds : List D} (h : SqT K F a xs) (r : RpL K F ds xs) : Wk K (Itt K a) F ds where
  go := fun g σ ρ M F' O H i A s hi => ⟨xs, xs[i]'(by rw [← r.len]; exact hi), same_t (s.trans A.sub) h, List.getElem?_eq_getElem _⟩
  yl := fun g σ ρ M F' O H i x H' d A s ⟨e, hx⟩ hd => by
    obtain ⟨y, h1, h2⟩ := r.get hd
    have e2 := hx xs (same_t (s.trans A.sub) h)
    rw [h1] at e2
    cases e2
    exact ⟨F', by rw [e]; exact A, Same.refl F', Rp.mono s _ _ h2⟩
  sp := fun g σ ρ M F' O H A s => ⟨xs, same_t (s.trans A.sub) h, Nat.le_of_eq r.len.symm⟩
def rngD (lo : Int) (n : Nat) : List D := (List.range n).map fun (i : Nat) => .int (lo + (i : Int))
theorem wk_range {K : PySem.W.Frag} {F : Hp} {lo : Int} {n : Nat} : Wk K (Itr lo n) F (rngD lo n) where
  go := fun g σ ρ M F' O H i A s hi => by
    unfold rngD at hi
    rw [List.length_map, List.length_range] at hi
    exact hi
  yl := fun g σ ρ M F' O H i x H' d A s ⟨e, hx⟩ hd => by
    subst e
    unfold rngD at hd
    rw [List.getElem?_map] at hd
    cases q : (List.range n)[i]? with
    | none => rw [q] at hd; cases hd
    | some j =>
      rw [q] at hd
      cases hd
      have e2 : j = i := by
        obtain ⟨h1, h2⟩ := List.getElem?_eq_some_iff.mp q
        rw [List.getElem_range] at h2
        exact h2.symm
      subst e2
      exact ⟨F', A, Same.refl F', hx⟩
  sp := fun g σ ρ M F' O H A s => by
    unfold rngD
    rw [List.length_map, List.length_range]
    exact Nat.le_refl _
def iL (pe : PTE) : PTA := fun w ρ M q => pe w ρ M fun d M' => match d with | .lst l => q l M' | .scr ns => q (ns.map .int) M' | _ => False
def iT (pe : PTE) : PTA := fun w ρ M q => pe w ρ M fun d M' => match d with | .tup l => q l M' | _ => False
theorem di_list (h : DE X W e pe) : DI X W tg e (iL pe) := pi_imp (pi_list h) fun σ H R ⟨g, ρ, M, F, O, q, w, A, pr, hw, k⟩ =>
  ⟨g, ρ, M, F, O, _, w, A, pr, hw, fun v H' F' O' M' d A' s r q => by
    cases d with
    | lst l =>
      obtain ⟨a, xs, e, hs, rl⟩ := r
      exact ⟨a, e, ⟨xs, .inl (.inl (A'.sub _ _ hs))⟩, k _ H' F' O' M' l A' s (wk_list (.inl (.inl hs)) rl) q⟩
    | scr ns =>
      obtain ⟨a, e, hs⟩ := r
      exact ⟨a, e, ⟨_, same_l A'.sub hs⟩, k _ H' F' O' M' _ A' s (wk_list hs (RpL.of_ints ns)) q⟩
    | _ => exact (show False from q).elim⟩
theorem di_tup (h : DE X W e pe) : DI X W tg e (iT pe) := pi_imp (pi_tup h) fun σ H R ⟨g, ρ, M, F, O, q, w, A, pr, hw, k⟩ =>
  ⟨g, ρ, M, F, O, _, w, A, pr, hw, fun v H' F' O' M' d A' s r q => by
    cases d with
    | tup l =>
      obtain ⟨a, xs, e, hs, rl⟩ := r
      exact ⟨a, e, ⟨xs, same_t A'.sub hs⟩, k _ H' F' O' M' l A' s (wk_tup hs rl) q⟩
    | _ => exact (show False from q).elim⟩
def iR1 (pa : PTE) : PTA := fun w ρ M q => pa w ρ M fun d M' => match d with | .int n => -1000000 ≤ n ∧ n ≤ 1000000 ∧ q (rngD 0 n.toNat) M' | _ => False
def iR2 (pa pb : PTE) : PTA := fun w ρ M q => pa w ρ M fun x M1 => pb w ρ M1 fun y M2 => match x, y with | .int m, .int n => -1000000 ≤ m ∧ m ≤ 1000000 ∧ -1000000 ≤ n ∧ n ≤ 1000000 ∧ q (rngD m (n - m).toNat) M2 | _, _ => False
theorem di_r1 (hg : Gl X "range") (hm : X.mg "range" = none) (ha : DE X W a pa) (he : starEach [a] X.env = (false, eval a X.env) :: starEach [] X.env := by rfl) (hs : starEach [a] X.env = [(false, eval a X.env)] := by rfl) : DI X W tg (.Call (.Name "range" p) [a] [] pos) (iR1 pa) :=
  pi_imp (pi_range1 hg hm (pa_cons ha pa_nil he) hs) fun σ H R ⟨g, ρ, M, F, O, q, w, A, pr, hw, k⟩ =>
  ⟨g, ρ, M, F, O, _, w, A, pr, hw, fun v H' F' O' M' d A' s r q => by
    cases d with
    | int n => exact ⟨n, by rw [show v = .int n from r], by have := q.1; omega, by have := q.2.1; omega, k _ H' F' O' M' _ A' s wk_range q.2.2⟩
    | _ => exact (show False from q).elim⟩
theorem di_r2 (hg : Gl X "range") (hm : X.mg "range" = none) (ha : DE X W a pa) (hb : DE X W b pb) (he : starEach [a, b] X.env = (false, eval a X.env) :: starEach [b] X.env := by rfl) (he2 : starEach [b] X.env = (false, eval b X.env) :: starEach [] X.env := by rfl)
    (hs : starEach [a, b] X.env = [(false, eval a X.env), (false, eval b X.env)] := by rfl) (hs2 : starEach [b] X.env = [(false, eval b X.env)] := by rfl) : DI X W tg (.Call (.Name "range" p) [a, b] [] pos) (iR2 pa pb) :=
  pi_imp (pi_range2 hg hm (pa_cons ha (pa_cons hb pa_nil he2) he) hs hs2) fun σ H R ⟨g, ρ, M, F, O, q, w, A, pr, hw, k⟩ =>
  ⟨g, ρ, M, F, O, _, w, A, pr, hw, fun v H1 F1 O1 M1 d A1 s1 r1 q1 => ⟨g, ρ, M1, F1, O1, _, w, A1, q1, hw.mono s1, fun u H2 F2 O2 M2 e A2 s2 r2 q2 => by
    cases d with
    | int m =>
      cases e with
      | int n =>
        obtain ⟨z1, z2, z3, z4, q3⟩ := q2
        exact ⟨m, n, by rw [show v = .int m from r1, show u = .int n from r2], ⟨by omega, by omega, by omega, by omega⟩, k _ H2 F2 O2 M2 _ A2 (s1.trans s2) wk_range q3⟩
      | _ => exact (show False from q2).elim
    | _ => exact (show False from q2).elim⟩⟩
/-- pairs of a place and an item -/
def enumD : Nat → List D → List D
  | _, [] => []
  | n, d :: r => .tup [.int n, d] :: enumD (n + 1) r
theorem enumD_get : ∀ (l : List D) (n i : Nat), (enumD n l)[i]? = (l[i]?).map fun d => .tup [.int ((n + i : Nat) : Int), d]
  | [], n, i => by simp [enumD]
  | d :: r, n, 0 => by simp [enumD]
  | d :: r, n, i + 1 => by
    show (enumD (n + 1) r)[i]? = _
    rw [enumD_get r (n + 1) i]
    have e : n + 1 + i = n + (i + 1) := by omega
    rw [e]
    rfl
theorem enumD_len : ∀ (l : List D) (n : Nat), (enumD n l).length = l.length
  | [], _ => rfl
  | d :: r, n => by show (enumD (n + 1) r).length + 1 = _; rw [enumD_len r]; rfl
theorem wk_enum {K : PySem.W.Frag} {F : Hp} {a : Addr} {xs : List V} {ds : List D} (h : SqL K F a xs) (r : RpL K F ds xs) : Wk K (Ite K a) F (enumD 0 ds) where
  go := fun g σ ρ M F' O H i A s hi => by
    rw [enumD_len] at hi
    exact ⟨xs, xs[i]'(by rw [← r.len]; exact hi), same_l (s.trans A.sub) h, List.getElem?_eq_getElem _⟩
  yl := fun g σ ρ M F' O H i x H' d A s ⟨T, y, ex, hT, eH, hx⟩ hd => by
    rw [enumD_get] at hd
    cases q : ds[i]? with
    | none => rw [q] at hd; cases hd
    | some d0 =>
      rw [q] at hd
      cases hd
      obtain ⟨z, h1, h2⟩ := r.get q
      have e2 := hx xs (same_l (s.trans A.sub) h)
      rw [h1] at e2
      have e3 : z = y := Option.some.inj e2
      subst e3 eH ex
      have sn := same_new (o := .tup [.int (i : Nat), z]) (A.f0 hT)
      exact ⟨_, A.lay hT, sn, T, _, rfl, .inl (.inl upd_same), .int (i : Nat), _, rfl, by rw [Nat.zero_add]; rfl, z, _, rfl, Rp.mono (s.trans sn) _ _ h2, rfl⟩
  sp := fun g σ ρ M F' O H A s => ⟨xs, same_l (s.trans A.sub) h, by rw [enumD_len, r.len]; exact Nat.le_refl _⟩
def iE (pe : PTE) : PTA := fun w ρ M q => pe w ρ M fun d M' => match d with | .lst l => q (enumD 0 l) M' | _ => False
theorem di_enum {elts : List Expr} {kk : Nat} {tpos : Pos} (hg : Gl X "enumerate") (hm : X.mg "enumerate" = none) (ha : DE X W a pa) (he : starEach [a] X.env = (false, eval a X.env) :: starEach [] X.env := by rfl) (hs : starEach [a] X.env = [(false, eval a X.env)] := by rfl) :
    DI X W (.Tuple elts kk tpos) (.Call (.Name "enumerate" p) [a] [] pos) (iE pa) := pi_imp (pi_enum hg hm (pa_cons ha pa_nil he) hs) fun σ H R ⟨g, ρ, M, F, O, q, w, A, pr, hw, k⟩ =>
  ⟨g, ρ, M, F, O, _, w, A, pr, hw, fun v H' F' O' M' d A' s r q => by
    cases d with
    | lst l =>
      obtain ⟨a, xs, e, hs, rl⟩ := r
      exact ⟨a, xs, by rw [e], .inl (.inl (A'.sub _ _ hs)), k _ H' F' O' M' _ A' s (wk_enum (.inl (.inl hs)) rl) q⟩
    | _ => exact (show False from q).elim⟩
end

/-! ### for -/
def forR (gd : PTG) (pb : PTS) (w : PWi) : List D → PEnds → Rho → Mm → Prop
  | [], P, ρ, M => P.nx ρ M
  | x :: r, P, ρ, M => gd x ρ fun ρ' => pb w { P with nx := forR gd pb w r P, ct := forR gd pb w r P, bk := P.nx } ρ' M
def dFor (pl : PTA) (gd : PTG) (pb : PTS) : PTS := fun w P ρ M => pl w ρ M fun ds M' => forR gd pb w ds P ρ M'
section
variable {X : Cx} {W : WX} {tg e : Expr} {ss : List Stmt} {pl : PTA} {gd : PTG} {is : List Nat} {pb : PTS} {pos : Pos}
theorem forR_at {w : PWi} {ds : List D} {P : PEnds} {ρ : Rho} {M : Mm} {i : Nat} {d : D} (h : ds[i]? = some d) (q : forR gd pb w (ds.drop i) P ρ M) :
    gd d ρ fun ρ' => pb w { P with nx := forR gd pb w (ds.drop (i + 1)) P, ct := forR gd pb w (ds.drop (i + 1)) P, bk := P.nx } ρ' M := by
  obtain ⟨hi, e⟩ := List.getElem?_eq_some_iff.mp h
  rw [List.drop_eq_getElem_cons hi, e] at q
  exact q
theorem ds_for (hp : PassesOwn (model X.prog X.w) X.A X.env X.xe) (hc : X.calm = true) (hi : DI X W tg e pl) (hg : DG X tg is gd) (hb : DSs X W ss pb) (hs : ∀ x, foldedSetIterable e X.env x = pure x := by intro _; rfl) : DS X W (.For tg e ss [] pos) (dFor pl gd pb) :=
  ps_imp (ps_for hp hc hi hg hb hs) fun D σ H ⟨g, ρ, M, F, O, P, w, A, h, hw, k1, k2, k3, k4, k5⟩ =>
  ⟨g, ρ, M, F, O, _, w, A, h, hw, fun J H1 F1 O1 M1 ds A1 s1 wk q => by
    refine ⟨fun i m σ' H' => ∃ ρ' M' F' O', Ab X.K g σ' H' ρ' M' F' O' ∧ Same F1 F' ∧ i ≤ ds.length ∧ m = ds.length - i ∧ forR gd pb w (ds.drop i) P ρ' M',
      ⟨ds.length, ρ, M1, F1, O1, A1, Same.refl F1, Nat.zero_le _, rfl, q⟩, ?_⟩
    rintro i m σ2 H2 ⟨ρ2, M2, F2, O2, A2, s2, hi2, rfl, q2⟩
    by_cases hlt : i < ds.length
    · refine .inr ⟨wk.go _ _ _ _ _ _ _ i A2 s2 hlt, fun σ' H' => ∃ ρ' M' F' O', Ab X.K g σ' H' ρ' M' F' O' ∧ Same F1 F' ∧ forR gd pb w (ds.drop (i + 1)) P ρ' M', ?_, ?_⟩
      · rintro σ' H' ⟨ρ', M', F', O', A', s', q'⟩
        exact ⟨ds.length - (i + 1), by omega, ρ', M', F', O', A', s', hlt, rfl, q'⟩
      · intro x H3 y3
        have hd := List.getElem?_eq_getElem hlt
        obtain ⟨F3, A3, s3, r3⟩ := wk.yl _ _ _ _ _ _ _ i x H3 _ A2 s2 y3 hd
        have q3 := forR_at hd q2
        have w3 : WOk X.K g F3 W w := (hw.mono s1).mono (s2.trans s3)
        refine ⟨g, ρ2, M2, F3, O2, _, _, A3, r3, q3, fun σ4 ρ4 A4 _ _ q4 => ⟨g, ρ4, M2, F3, O2, _, w, A4, q4, w3, ?_, ?_, ?_, ?_, fun a xs σ5 H5 ρ5 M5 F5 O5 ds A5 s5 e1 e2 e3 e4 e5 q5 => k5 a xs σ5 H5 ρ5 M5 F5 O5 ds A5 (s1.trans ((s2.trans s3).trans s5)) e1 e2 e3 e4 e5 q5⟩⟩
        · intro σ5 H5 ρ5 M5 F5 O5 A5 s5 q5
          exact ⟨ρ5, M5, F5, O5, A5, (s2.trans s3).trans s5, q5⟩
        · intro v σ5 H5 ρ5 M5 F5 O5 d A5 s5 r5 q5
          exact k2 v σ5 H5 ρ5 M5 F5 O5 d A5 (s1.trans ((s2.trans s3).trans s5)) r5 q5
        · intro σ5 H5 ρ5 M5 F5 O5 A5 s5 q5
          exact k1 σ5 H5 ρ5 M5 F5 O5 A5 (s1.trans ((s2.trans s3).trans s5)) q5
        · intro σ5 H5 ρ5 M5 F5 O5 A5 s5 q5
          exact ⟨ρ5, M5, F5, O5, A5, (s2.trans s3).trans s5, q5⟩
    · have e : i = ds.length := by omega
      subst e
      rw [List.drop_length] at q2
      exact .inl ⟨wk.sp _ _ _ _ _ _ _ A2 s2, k1 σ2 H2 ρ2 M2 F2 O2 A2 (s1.trans s2) q2⟩⟩
end
end Px

set_option Elab.async false
set_option linter.all false
set_option maxRecDepth 100000
namespace Px
open PySem PySem.Spec PyProof.Rows L2

/-! ## comprehensions -/
def un : Rho → Nat → Rho
  | [], _ => []
  | _ :: r, 0 => none :: r
  | x :: r, n + 1 => x :: un r n
def uns (ρ : Rho) : List Nat → Rho
  | [] => ρ
  | v :: vs => un (uns ρ vs) v
theorem un_len : ∀ (ρ : Rho) (i : Nat), (un ρ i).length = ρ.length
  | [], _ => rfl
  | _ :: r, 0 => rfl
  | x :: r, n + 1 => by show (un r n).length + 1 = _; rw [un_len r n]; rfl
theorem uns_len (ρ : Rho) : ∀ vs : List Nat, (uns ρ vs).length = ρ.length
  | [] => rfl
  | v :: vs => by show (un (uns ρ vs) v).length = _; rw [un_len, uns_len ρ vs]
theorem gt_un_ne : ∀ {ρ : Rho} {i j : Nat}, j ≠ i → gt (un ρ i) j = gt ρ j
  | [], _, _, _ => rfl
  | _ :: r, 0, 0, h => absurd rfl h
  | _ :: r, 0, j + 1, _ => rfl
  | x :: r, n + 1, 0, _ => rfl
  | x :: r, n + 1, j + 1, h => gt_un_ne (ρ := r) fun e => h (by rw [e])
theorem gt_un_self : ∀ {ρ : Rho} {i : Nat}, gt (un ρ i) i = none
  | [], _ => rfl
  | _ :: r, 0 => rfl
  | x :: r, n + 1 => gt_un_self (ρ := r)
theorem gt_uns {ρ : Rho} {j : Nat} : ∀ {vs : List Nat}, (j ∉ vs → gt (uns ρ vs) j = gt ρ j) ∧ (j ∈ vs → gt (uns ρ vs) j = none)
  | [] => ⟨fun _ => rfl, fun h => nomatch h⟩
  | v :: vs => by
    obtain ⟨h1, h2⟩ := gt_uns (ρ := ρ) (j := j) (vs := vs)
    by_cases e : j = v
    · subst e
      exact ⟨fun h => absurd List.mem_cons_self h, fun _ => gt_un_self⟩
    · have q : gt (uns ρ (v :: vs)) j = gt (uns ρ vs) j := gt_un_ne e
      rw [q]
      exact ⟨fun h => h1 fun z => h (List.mem_cons_of_mem _ z), fun h => h2 ((List.mem_cons.mp h).resolve_left e)⟩
theorem wipe_at {σ : L2.St} {j : Nat} : ∀ {vs : List Nat}, (j ∉ vs → (wipe σ vs)[j]? = σ[j]?) ∧ (j ∈ vs → j < σ.length → (wipe σ vs)[j]? = some none)
  | [] => ⟨fun _ => rfl, fun h => nomatch h⟩
  | v :: vs => by
    obtain ⟨h1, h2⟩ := wipe_at (σ := σ) (j := j) (vs := vs)
    show (j ∉ v :: vs → ((wipe σ vs).set v none)[j]? = σ[j]?) ∧ (j ∈ v :: vs → j < σ.length → ((wipe σ vs).set v none)[j]? = some none)
    by_cases e : j = v
    · subst e
      exact ⟨fun h => absurd List.mem_cons_self h, fun _ hl => List.getElem?_set_self (by rw [wipe_length]; exact hl)⟩
    · rw [List.getElem?_set_ne (Ne.symm e)]
      exact ⟨fun h => h1 fun z => h (List.mem_cons_of_mem _ z), fun h => h2 ((List.mem_cons.mp h).resolve_left e)⟩
theorem wipe_eq {σ σ' : L2.St} {vs : List Nat} (hl : σ'.length = σ.length) (h : ∀ j, j ∉ vs → σ'[j]? = (wipe σ vs)[j]?) : wipe σ' vs = wipe σ vs := by
  refine List.ext_getElem? fun j => ?_
  by_cases hj : j ∈ vs
  · by_cases hlt : j < σ.length
    · rw [(wipe_at (vs := vs)).2 hj hlt, (wipe_at (vs := vs)).2 hj (by rw [hl]; exact hlt)]
    · rw [List.getElem?_eq_none (by rw [wipe_length]; omega), List.getElem?_eq_none (by rw [wipe_length]; omega)]
  · rw [(wipe_at (vs := vs)).1 hj]
    exact h j hj
def okW (ρ : Rho) (vs : List Nat) : Bool := vs.all fun v => match gt ρ v with | some (.own _) => false | _ => true
section
variable {K : PySem.W.Frag} {g g0 : Gh} {σ : L2.St} {H H0 : Hp} {ρ : Rho} {M M0 : Mm} {F F0 : Hp} {O O0 : Own} {D0 : Addr} {l l' : List D} {xs ys : List V}
theorem Ab.wiped (A : Ab K g σ H ρ M F O) (vs : List Nat) : Ab K g (wipe σ vs) H (uns ρ vs) M F O :=
  { toWd := A.toWd, len := by rw [uns_len, wipe_length]; exact A.len, sl := fun i sv e => by
      by_cases h : i ∈ vs
      · rw [gt_uns.2 h] at e; cases e
      · rw [gt_uns.1 h] at e
        obtain ⟨v, e1, r⟩ := A.sl i sv e
        exact ⟨v, by rw [wipe_at.1 h]; exact e1, r⟩ }
theorem Ab.unwiped {vs : List Nat} (A : Ab K g (wipe σ vs) H (uns ρ vs) M F O) (A0 : Ab K g0 σ H0 ρ M0 F0 O0) (s : Same F0 F) (h : okW ρ vs = true) : Ab K g σ H ρ M F O :=
  { toWd := A.toWd, len := A0.len, sl := fun i sv e => by
      by_cases hi : i ∈ vs
      · obtain ⟨v, e1, r⟩ := A0.sl i sv e
        refine ⟨v, e1, ?_⟩
        have z := List.all_eq_true.mp h i hi
        rw [e] at z
        cases sv with
        | val d => exact Rp.mono s d v r
        | own l => cases z
      · obtain ⟨v, e1, r⟩ := A.sl i sv (by rw [gt_uns.1 hi]; exact e)
        exact ⟨v, by rw [wipe_at.1 hi] at e1; exact e1, r⟩ }
theorem Ab.congr {ρ' : Rho} (A : Ab K g σ H ρ M F O) (hl : ρ'.length = ρ.length) (h : ∀ j, gt ρ' j = gt ρ j) : Ab K g σ H ρ' M F O :=
  { toWd := A.toWd, len := hl.trans A.len, sl := fun i sv e => A.sl i sv (by rw [← h]; exact e) }
/-- a list is being made at D0 -/
theorem Ab.tmpNew (A : Ab K g σ H ρ M F O) (h : H D0 = some (.lst xs)) (r : RpL K F l xs) (hF : F D0 = none) (hO : O D0 = none) (h0 : g.H0 D0 = none) :
    Ab K { g with tmp := (D0, l) :: g.tmp } σ H ρ M F (fun b => if b = D0 then some .tmp else O b) := by
  have keep : ∀ b u, O b = some u → (if b = D0 then some Ow.tmp else O b) = some u := fun b u e => by rw [if_neg (fun z => by rw [z, hO] at e; cases e)]; exact e
  exact { sub := A.sub, ext0 := A.ext0, new := A.new, frm := A.frm, thr := A.thr
          liv := fun b u e => by
            by_cases z : b = D0
            · subst z; exact ⟨⟨_, h⟩, hF, .inr h0⟩
            · rw [if_neg z] at e; exact A.liv b u e
          slo := fun b u e n => by
            by_cases z : b = D0
            · subst z; exact h0
            · rw [if_neg z] at e; exact A.slo b u e n
          tm := fun p l' e => by
            rcases List.mem_cons.mp e with z | z
            · cases z; exact ⟨xs, h, r, if_pos rfl⟩
            · obtain ⟨ys, e1, e2, e3⟩ := A.tm p l' z
              exact ⟨ys, e1, e2, keep p _ e3⟩
          mu := fun b mo e => (A.mu b mo e).mono (Same.refl F) fun q u e1 e2 => ⟨e1, keep q _ e2⟩
          len := A.len
          sl := fun j sv e => by
            obtain ⟨v, e1, r⟩ := A.sl j sv e
            exact ⟨v, e1, r.mono (Same.refl F) fun q xs e1 e2 => ⟨e1, keep q _ e2⟩⟩ }
/-- it grows -/
theorem Ab.grow (A : Ab K { g with tmp := (D0, l) :: g.tmp } σ H ρ M F O) (nd : ∀ q ∈ g.tmp, q.1 ≠ D0) (r : RpL K F l' ys) : Ab K { g with tmp := (D0, l') :: g.tmp } σ (upd H D0 (.lst ys)) ρ M F O := by
  obtain ⟨xs, h, _, hO⟩ := A.tm D0 l List.mem_cons_self
  have h0 : g.H0 D0 = none := A.slo D0 _ hO (fun _ z => by cases z)
  obtain ⟨_, hF, _⟩ := A.liv D0 _ hO
  have ne : ∀ b u, O b = some u → u ≠ .tmp → b ≠ D0 := fun b u e n z => by rw [z, hO] at e; exact n (Option.some.inj e).symm
  exact { sub := fun b u e => by rw [upd_ne (fun z => by rw [z, hF] at e; cases e)]; exact A.sub b u e
          ext0 := A.ext0, new := A.new
          frm := fun b u e n => by
            have e' : g.H0 b = some u := e
            rw [upd_ne (fun z => by rw [z, h0] at e'; cases e')]; exact A.frm b u e n
          thr := fun b u e => by
            have e' : g.H0 b = some u := e
            rw [upd_ne (fun z => by rw [z, h0] at e'; cases e')]; exact A.thr b u e
          liv := fun b u e => by
            obtain ⟨r1, r2⟩ := A.liv b u e
            refine ⟨?_, r2⟩
            by_cases z : b = D0
            · subst z; exact ⟨_, upd_same⟩
            · rw [upd_ne z]; exact r1
          slo := A.slo
          tm := fun p l2 e => by
            rcases List.mem_cons.mp e with z | z
            · cases z; exact ⟨ys, upd_same, r, hO⟩
            · obtain ⟨zs, e1, e2, e3⟩ := A.tm p l2 (List.mem_cons_of_mem _ z)
              exact ⟨zs, by rw [upd_ne (nd _ z)]; exact e1, e2, e3⟩
          mu := fun b mo e => (A.mu b mo e).mono (Same.refl F) fun q u e1 e2 => ⟨by rw [upd_ne (ne q _ e2 (fun z => by cases z))]; exact e1, e2⟩
          len := A.len
          sl := fun j sv e => by
            obtain ⟨v, e1, q⟩ := A.sl j sv e
            exact ⟨v, e1, q.mono (Same.refl F) fun q xs e1 e2 => ⟨by rw [upd_ne (ne q _ e2 (fun z => by cases z))]; exact e1, e2⟩⟩ }
/-- it is made -/
theorem Ab.made (A : Ab K { g with tmp := (D0, l) :: g.tmp } σ H ρ M F O) (nd : ∀ q ∈ g.tmp, q.1 ≠ D0) : ∃ xs O', Ab K g σ H ρ M F O' ∧ H D0 = some (.lst xs) ∧ RpL K F l xs ∧ F D0 = none ∧ O' D0 = none ∧ g.H0 D0 = none := by
  obtain ⟨xs, h, r, hO⟩ := A.tm D0 l List.mem_cons_self
  have h0 : g.H0 D0 = none := A.slo D0 _ hO (fun _ z => by cases z)
  obtain ⟨_, hF, _⟩ := A.liv D0 _ hO
  refine ⟨xs, fun b => if b = D0 then none else O b, ?_, h, r, hF, if_pos rfl, h0⟩
  have keep : ∀ b u, O b = some u → u ≠ .tmp → (if b = D0 then none else O b) = some u := fun b u e n => by rw [if_neg (fun z => by rw [z, hO] at e; exact n (Option.some.inj e).symm)]; exact e
  exact { sub := A.sub, ext0 := A.ext0, new := A.new, frm := A.frm, thr := A.thr
          liv := fun b u e => by
            by_cases z : b = D0
            · rw [if_pos z] at e; cases e
            · rw [if_neg z] at e; exact A.liv b u e
          slo := fun b u e n => by
            by_cases z : b = D0
            · rw [if_pos z] at e; cases e
            · rw [if_neg z] at e; exact A.slo b u e n
          tm := fun p l' e => by
            obtain ⟨ys, e1, e2, e3⟩ := A.tm p l' (List.mem_cons_of_mem _ e)
            exact ⟨ys, e1, e2, by rw [if_neg (nd _ e)]; exact e3⟩
          mu := fun b mo e => (A.mu b mo e).mono (Same.refl F) fun q u e1 e2 => ⟨e1, keep q _ e2 (fun z => by cases z)⟩
          len := A.len
          sl := fun j sv e => by
            obtain ⟨v, e1, r⟩ := A.sl j sv e
            exact ⟨v, e1, r.mono (Same.refl F) fun q xs e1 e2 => ⟨e1, keep q _ e2 (fun z => by cases z)⟩⟩ }
end

/-- no exception -/
abbrev W0 : WX := fun _ _ _ _ => False
abbrev w0 : PWi := fun _ _ _ _ => False
def dYes : PTT := fun _ _ M q => q true M
abbrev DTs (X : Cx) (W : WX) (ifs : List Expr) (p : PTT) : Prop := PTs X ifs (realT X.K W p)
/-- the items in turn -/
def compR (gd : PTG) (tt : PTT) (te : PTE) (ρ : Rho) : List D → List D → Mm → (List D → Mm → Prop) → Prop
  | [], acc, M, q => q acc M
  | x :: r, acc, M, q => gd x ρ fun ρ' => tt w0 ρ' M fun b M1 => if b = true then te w0 ρ' M1 fun y M2 => acc.length < 1000000 ∧ compR gd tt te ρ r (acc ++ [y]) M2 q else compR gd tt te ρ r acc M1 q
def dComp (vs : List Nat) (pl : PTA) (gd : PTG) (tt : PTT) (te : PTE) : PTA := fun w ρ M q => okW ρ vs = true ∧ pl w ρ M fun ds M1 => compR gd tt te (uns ρ vs) ds [] M1 q
section
variable {X : Cx} {W : WX} {elt tg iter : Expr} {ifs : List Expr} {scope : Scope} {own : List (Str × Nat)} {pos : Pos} {pl : PTA} {gd : PTG} {tt : PTT} {te : PTE} {is vs : List Nat}
theorem dts_nil : DTs X W [] dYes := by
  refine ⟨fun pins s σ H Q I ⟨g, ρ, M, F, O, q, w, A, h, hw, k⟩ => ?_⟩
  exact pts_nil.run pins s σ H Q I (k true H F O M A (Same.refl F) h)
theorem dts_one {c : Expr} (h : DT X W c tt) : DTs X W [c] tt := pts_one h
theorem compR_at {ρ : Rho} {ds acc : List D} {M : Mm} {q : List D → Mm → Prop} {i : Nat} {d : D} (h : ds[i]? = some d) (k : compR gd tt te ρ (ds.drop i) acc M q) :
    gd d ρ fun ρ' => tt w0 ρ' M fun b M1 => if b = true then te w0 ρ' M1 fun y M2 => acc.length < 1000000 ∧ compR gd tt te ρ (ds.drop (i + 1)) (acc ++ [y]) M2 q else compR gd tt te ρ (ds.drop (i + 1)) acc M1 q := by
  obtain ⟨hi, e⟩ := List.getElem?_eq_some_iff.mp h
  rw [List.drop_eq_getElem_cons hi, e] at k
  exact k
theorem line_lt {n : Nat} (h : n < 1000000) : n < sizeLine := Nat.lt_of_lt_of_le h (by decide)
theorem comp_run {K : PySem.W.Frag} (hsub : ∀ j ∈ is, j ∈ vs) {σ : L2.St} {H : Hp} {Q : VK} (h : realL K W (dComp vs pl gd tt te) σ H Q) : tLc (realI K W pl) (realG K is gd) (realT K W0 tt) (real K W0 te) vs σ H Q := by
  obtain ⟨g, ρ, M, F, O, q, w, A, ⟨hW, pr⟩, hw, k⟩ := h
  refine ⟨g, ρ, M, F, O, _, w, A, pr, hw, fun J H1 F1 O1 M1 ds A1 s1 wk q1 => fun D0 hD => ?_⟩
  have nd : ∀ p ∈ g.tmp, p.1 ≠ D0 := fun p hp z => by
    obtain ⟨xs, e1, _⟩ := A1.tm p.1 p.2 hp
    rw [z, hD] at e1; cases e1
  have A2 := ((A1.laid (o := .lst []) hD).tmpNew (l := []) upd_same rfl (A1.f0 hD) (A1.o0 hD) (A1.g0 hD)).wiped vs
  refine ⟨fun i m H' => ∃ M' F' O' acc, Ab K { g with tmp := (D0, acc) :: g.tmp } (wipe σ vs) H' (uns ρ vs) M' F' O' ∧ Same F1 F' ∧ i ≤ ds.length ∧ m = ds.length - i ∧ compR gd tt te (uns ρ vs) (ds.drop i) acc M' q,
    ⟨ds.length, M1, F1, _, [], A2, Same.refl F1, Nat.zero_le _, rfl, q1⟩, ?_⟩
  rintro i m H2 ⟨M2, F2, O2, acc, A3, s3, hi2, rfl, q2⟩
  by_cases hlt : i < ds.length
  · refine .inr ⟨wk.go _ _ _ _ _ _ _ i A3 s3 hlt, fun H' => ∃ M' F' O' acc, Ab K { g with tmp := (D0, acc) :: g.tmp } (wipe σ vs) H' (uns ρ vs) M' F' O' ∧ Same F1 F' ∧ compR gd tt te (uns ρ vs) (ds.drop (i + 1)) acc M' q, ?_, ?_⟩
    · rintro H' ⟨M', F', O', acc', A', s', q'⟩
      exact ⟨ds.length - (i + 1), by omega, M', F', O', acc', A', s', hlt, rfl, q'⟩
    · intro x H3 y3
      have hd := List.getElem?_eq_getElem hlt
      obtain ⟨F3, A4, s4, r4⟩ := wk.yl _ _ _ _ _ _ _ i x H3 _ A3 s3 y3 hd
      have q3 := compR_at hd q2
      refine ⟨_, uns ρ vs, M2, F3, O2, _, _, A4, r4, q3, fun σ5 ρ5 A5 n5 l5 q5 => ?_⟩
      have ew : wipe σ5 vs = wipe σ vs := wipe_eq (by rw [l5, wipe_length]) fun j hj => (n5 j fun z => hj (hsub j z)).1
      have hl5 : ρ5.length = ρ.length := by rw [A5.len, l5, wipe_length, ← A1.len]
      have back : ∀ {H' : Hp} {M' : Mm} {F' : Hp} {O' : Own} {acc' : List D}, Ab K { g with tmp := (D0, acc') :: g.tmp } σ5 H' ρ5 M' F' O' → Ab K { g with tmp := (D0, acc') :: g.tmp } (wipe σ vs) H' (uns ρ vs) M' F' O' := fun {H' M' F' O' acc'} Z => by
        have Z2 := Z.wiped vs
        rw [ew] at Z2
        refine Z2.congr (by rw [uns_len, uns_len, hl5]) fun j => ?_
        by_cases hj : j ∈ vs
        · rw [gt_uns.2 hj, gt_uns.2 hj]
        · rw [gt_uns.1 hj, gt_uns.1 hj]
          have z := (n5 j fun z => hj (hsub j z)).2
          rw [gt_uns.1 hj] at z
          exact z.symm
      refine ⟨ew, _, ρ5, M2, F3, O2, _, w0, A5, q5, fun _ _ _ _ _ _ _ _ _ _ _ _ z => z, fun b H6 F6 O6 M6 A6 s6 q6 => ?_⟩
      cases b with
      | false =>
        rw [if_neg Bool.false_ne_true] at q6 ⊢
        exact ⟨M6, F6, O6, acc, back A6, (s3.trans s4).trans s6, q6⟩
      | true =>
        rw [if_pos rfl] at q6 ⊢
        refine ⟨_, ρ5, M6, F6, O6, _, w0, A6, q6, fun _ _ _ _ _ _ _ _ _ _ _ _ z => z, fun v H7 F7 O7 M7 d A7 s7 r7 ⟨z7, q7⟩ => ?_⟩
        obtain ⟨xs, h1, h2, _⟩ := A7.tm D0 acc List.mem_cons_self
        exact ⟨xs, h1, by rw [← h2.len]; exact line_lt z7, M7, F7, O7, _, back (A7.grow nd (h2.app (show RpL K F7 [d] [v] from ⟨v, [], rfl, r7, rfl⟩))), ((s3.trans s4).trans s6).trans s7, q7⟩
  · have e : i = ds.length := by omega
    subst e
    rw [List.drop_length] at q2
    refine .inl ⟨wk.sp _ _ _ _ _ _ _ A3 s3, ?_⟩
    have A4 := A3.unwiped A1 s3 hW
    obtain ⟨xs, O4, A5, h1, h2, h3, h4, h5⟩ := A4.made nd
    exact k D0 xs H2 F2 O4 M2 acc A5 (s1.trans s3) h1 h2 h3 h4 h5 q2
theorem dl_comp (hc : X.calm = true) (hN : X.N.Nodup) (hi : DI X W tg iter pl) (ok : BlkOk X.N X.env.scope scope own)
    (hg : ∀ (s : Shared) (H : Hp) (C : Addr) (cl : List (Str × Addr)) (fp : List Addr), DG (X.blk s H scope (compEnvC scope cl C X.env) fp) tg is gd)
    (ht : ∀ (s : Shared) (H : Hp) (C : Addr) (cl : List (Str × Addr)) (fp : List Addr), DTs (X.blk s H scope (compEnvC scope cl C X.env) fp) W0 ifs tt)
    (he : ∀ (s : Shared) (H : Hp) (C : Addr) (cl : List (Str × Addr)) (fp : List Addr), DE (X.blk s H scope (compEnvC scope cl C X.env) fp) W0 elt te) (hsub : ∀ j ∈ is, j ∈ own.map (·.2) := by decide)
    (hs : ∀ x, foldedSetIterable iter X.env x = pure x := by intro _; rfl) : DL X W (.ListComp elt [⟨tg, iter, ifs, 0⟩] scope pos) (dComp (own.map (·.2)) pl gd tt te) :=
  pe_imp (pe_lc hc hN hi ok hg ht he hs) fun σ H Q h => comp_run hsub h
/-- name = [..] -/
theorem ds_setC (i : Nat) {y : Str} {py spos : Pos} (hc : X.calm = true) (hN : X.N.Nodup) (hsw : swapsWith (.ListComp elt [⟨tg, iter, ifs, 0⟩] scope pos) (some (.Name y py)) spos.line X.env = pure true) (hi : DI X W tg iter pl) (ok : BlkOk X.N X.env.scope scope own)
    (hg : ∀ (s : Shared) (H : Hp) (C : Addr) (cl : List (Str × Addr)) (fp : List Addr), DG (X.blk s H scope (compEnvC scope cl C X.env) fp) tg is gd)
    (ht : ∀ (s : Shared) (H : Hp) (C : Addr) (cl : List (Str × Addr)) (fp : List Addr), DTs (X.blk s H scope (compEnvC scope cl C X.env) fp) W0 ifs tt)
    (he : ∀ (s : Shared) (H : Hp) (C : Addr) (cl : List (Str × Addr)) (fp : List Addr), DE (X.blk s H scope (compEnvC scope cl C X.env) fp) W0 elt te) (hsub : ∀ j ∈ is, j ∈ own.map (·.2) := by decide)
    (hy : X.N[i]? = some y := by rfl) (hyl : X.env.scope.names.lookup y = some .local := by rfl) (hs : ∀ x, foldedSetIterable iter X.env x = pure x := by intro _; rfl) :
    DS X W (.Assign [.Name y py] (.ListComp elt [⟨tg, iter, ifs, 0⟩] scope pos) spos) (dSet i (dL (dComp (own.map (·.2)) pl gd tt te))) :=
  ps_imp (ps_setLc hc hN hy hyl hsw hi ok hg ht he hs) fun D σ H ⟨g, ρ, M, F, O, P, w, A, h, hw, k1, _⟩ => by
    refine comp_run (Q := fun x H1 => gName i x σ H1 D.nx) hsub ⟨g, ρ, M, F, O, _, w, A, h, hw, fun a xs H' F' O' M' ds A' s hH r hF hO h0 q => ?_⟩
    have s2 : Same F' (upd F' a (.lst xs)) := same_new hF
    exact k1 _ H' _ M' _ O' ((A'.freeze hH hF hO h0).put (d := .lst ds) ⟨a, xs, rfl, upd_same, RpL.mono s2 ds xs r⟩) (s.trans s2) q
theorem ds_setCO (i : Nat) {y : Str} {py spos : Pos} (hc : X.calm = true) (hN : X.N.Nodup) (hsw : swapsWith (.ListComp elt [⟨tg, iter, ifs, 0⟩] scope pos) (some (.Name y py)) spos.line X.env = pure true) (hi : DI X W tg iter pl) (ok : BlkOk X.N X.env.scope scope own)
    (hg : ∀ (s : Shared) (H : Hp) (C : Addr) (cl : List (Str × Addr)) (fp : List Addr), DG (X.blk s H scope (compEnvC scope cl C X.env) fp) tg is gd)
    (ht : ∀ (s : Shared) (H : Hp) (C : Addr) (cl : List (Str × Addr)) (fp : List Addr), DTs (X.blk s H scope (compEnvC scope cl C X.env) fp) W0 ifs tt)
    (he : ∀ (s : Shared) (H : Hp) (C : Addr) (cl : List (Str × Addr)) (fp : List Addr), DE (X.blk s H scope (compEnvC scope cl C X.env) fp) W0 elt te) (hsub : ∀ j ∈ is, j ∈ own.map (·.2) := by decide)
    (hy : X.N[i]? = some y := by rfl) (hyl : X.env.scope.names.lookup y = some .local := by rfl) (hs : ∀ x, foldedSetIterable iter X.env x = pure x := by intro _; rfl) :
    DS X W (.Assign [.Name y py] (.ListComp elt [⟨tg, iter, ifs, 0⟩] scope pos) spos) (dSetO i (dComp (own.map (·.2)) pl gd tt te)) :=
  ps_imp (ps_setLc hc hN hy hyl hsw hi ok hg ht he hs) fun D σ H ⟨g, ρ, M, F, O, P, w, A, h, hw, k1, _⟩ => by
    refine comp_run (Q := fun x H1 => gName i x σ H1 D.nx) hsub ⟨g, ρ, M, F, O, _, w, A, h, hw, fun a xs H' F' O' M' ds A' s hH r hF hO h0 q => ?_⟩
    exact k1 _ H' _ M' F' _ (A'.putOwn hH r hF hO h0) s q
end
end Px

set_option Elab.async false
set_option linter.all false
set_option maxRecDepth 100000
namespace Px
open PySem PySem.Spec PyProof.Rows L2

/-! ## raise X('..') -/
def dRaise (cls : Value) : PTS := fun w _ ρ M => w cls [] ρ M
section
variable {X : Cx} {W : WX}
/-- what the text says of an error class without an __init__ of its own -/
structure ExcTxt (K : PySem.W.Frag) (mg : Str → Option Value) (x : Str) (C : Addr) : Prop where
  g : mg x = some (.ref C)
  x : PySem.W.excIn K C [.type "ValueError", .type "Exception", .type "BaseException", .type "object"] "ValueError.__new__" = true
  k : PySem.W.keepIn K (.ref C) = true
  b : PySem.W.subIn K (.ref C) (.type "BaseException") = some true
  t : PySem.W.typeIn K (.ref C) = some (.type "type")
theorem ds_raise {x m : Str} {j : Nat} {p p2 pos pos2 : Pos} {C : Addr} (hc : X.calm = true) (tk : Takes X W) (T : ExcTxt X.K X.mg x C) (hg : Gl X x) (hdb : (x == ("__debug__" : Str)) = false := by decide) :
    DS X W (.Raise (some (.Call (.Name x p) [.Constant (.str m) j p2] [] pos)) none pos2) (dRaise (.ref C)) :=
  ps_imp (ps_raise hc tk (pmk_own PySem.F.excBase_ValueError T.x T.g T.k (raises_own T.b T.t) hg hdb)) fun D σ H ⟨g, ρ, M, F, O, P, w, A, h, hw, _⟩ =>
    hw (.ref C) none σ H ρ M F O [] A (Same.refl F) rfl h
end

/-! ## short words for promises -/
def ar1 (ds : List D) (f : D → Prop) : Prop := match ds with | [a] => f a | _ => False
def ar2 (ds : List D) (f : D → D → Prop) : Prop := match ds with | [a, b] => f a b | _ => False
def ar3 (ds : List D) (f : D → D → D → Prop) : Prop := match ds with | [a, b, c] => f a b c | _ => False
def ar4 (ds : List D) (f : D → D → D → D → Prop) : Prop := match ds with | [a, b, c, d] => f a b c d | _ => False
theorem ar1_of {ds : List D} {f : D → Prop} (h : ar1 ds f) : ∃ a, ds = [a] ∧ f a := by
  unfold ar1 at h
  split at h
  · exact ⟨_, rfl, h⟩
  · exact h.elim
theorem ar2_of {ds : List D} {f : D → D → Prop} (h : ar2 ds f) : ∃ a b, ds = [a, b] ∧ f a b := by
  unfold ar2 at h
  split at h
  · exact ⟨_, _, rfl, h⟩
  · exact h.elim
theorem ar3_of {ds : List D} {f : D → D → D → Prop} (h : ar3 ds f) : ∃ a b c, ds = [a, b, c] ∧ f a b c := by
  unfold ar3 at h
  split at h
  · exact ⟨_, _, _, rfl, h⟩
  · exact h.elim
theorem ar4_of {ds : List D} {f : D → D → D → D → Prop} (h : ar4 ds f) : ∃ a b c d, ds = [a, b, c, d] ∧ f a b c d := by
  unfold ar4 at h
  split at h
  · exact ⟨_, _, _, _, rfl, h⟩
  · exact h.elim
def asI (d : D) (f : Int → Prop) : Prop := match d with | .int i => f i | _ => False
theorem asI_of {d : D} {f : Int → Prop} (h : asI d f) : ∃ i, d = .int i ∧ f i := by
  unfold asI at h
  split at h
  · exact ⟨_, rfl, h⟩
  · exact h.elim
def asT (d : D) (f : List D → Prop) : Prop := match d with | .tup l => f l | _ => False
theorem asT_of {d : D} {f : List D → Prop} (h : asT d f) : ∃ l, d = .tup l ∧ f l := by
  unfold asT at h
  split at h
  · exact ⟨_, rfl, h⟩
  · exact h.elim
def asL (d : D) (f : List D → Prop) : Prop := match d with | .lst l => f l | _ => False
theorem asL_of {d : D} {f : List D → Prop} (h : asL d f) : ∃ l, d = .lst l ∧ f l := by
  unfold asL at h
  split at h
  · exact ⟨_, rfl, h⟩
  · exact h.elim

/-! ## a draw -/
def updM (M : Mm) (a : Addr) (mo : Mo) : Mm := fun b => if b = a then some mo else M b
/-- a draw, at the address that the argument names -/
def asDraw (d : D) (M : Mm) (f : Prop) : Prop := match d with | .raw (.ref a) => M a = some .draw ∧ f | _ => False
theorem asDraw_of {d : D} {M : Mm} {f : Prop} (h : asDraw d M f) : ∃ a, d = .raw (.ref a) ∧ M a = some .draw ∧ f := by
  unfold asDraw at h
  split at h
  · exact ⟨_, rfl, h.1, h.2⟩
  · exact h.elim
def sp_begin : PSp := fun ds M q _ => ar1 ds fun d => match d with | .scr ns => ns.length ≤ 63 ∧ ∀ a, M a = none → q (.raw (.ref a)) (updM M a .draw) | _ => False
def sp_take : PSp := fun ds M q _ => ar2 ds fun d n => asDraw d M (asI n fun n => (0 < n ∧ n.natAbs.log2 < 9000) ∧ ∀ k : Int, 0 ≤ k → k < n → q (.int k) M)

section
variable {K : PySem.W.Frag} {g : Gh} {σ : L2.St} {H H' : Hp} {ρ : Rho} {M : Mm} {F F' : Hp} {O : Own} {a l p : Addr} {o : HO}
/-- a nobody's object is changed -/
theorem Ab.poke (A : Ab K g σ H ρ M F O) (h : ∃ x, H p = some x) (hF : F p = none) (hO : O p = none) (h0 : g.H0 p = none) : Ab K g σ (upd H p o) ρ M F O := by
  have ne : ∀ b u, O b = some u → b ≠ p := fun b u e z => by rw [z, hO] at e; cases e
  exact { sub := fun b u e => by rw [upd_ne (fun z => by rw [z, hF] at e; cases e)]; exact A.sub b u e
          ext0 := A.ext0, new := A.new
          frm := fun b u e n => by rw [upd_ne (fun z => by rw [z, h0] at e; cases e)]; exact A.frm b u e n
          thr := fun b u e => by rw [upd_ne (fun z => by rw [z, h0] at e; cases e)]; exact A.thr b u e
          liv := fun b u e => by
            obtain ⟨r1, r2⟩ := A.liv b u e
            exact ⟨by rw [upd_ne (ne b u e)]; exact r1, r2⟩
          slo := A.slo
          tm := fun q l e => by
            obtain ⟨xs, e1, e2, e3⟩ := A.tm q l e
            exact ⟨xs, by rw [upd_ne (ne q _ e3)]; exact e1, e2, e3⟩
          mu := fun b mo e => (A.mu b mo e).mono (Same.refl F) fun q u e1 e2 => ⟨by rw [upd_ne (ne q _ e2)]; exact e1, e2⟩
          len := A.len
          sl := fun j sv e => by
            obtain ⟨v, e1, r⟩ := A.sl j sv e
            exact ⟨v, e1, r.mono (Same.refl F) fun q xs e1 e2 => ⟨by rw [upd_ne (ne q _ e2)]; exact e1, e2⟩⟩ }
/-- a draw is made of a new dict and of the list that slot i holds alone -/
theorem Ab.drawn {i : Nat} {big cells : List Int} {c : V} {rest turn mix : Int} (A : Ab K g σ H ρ M F O) (hi : gt ρ i = some (.own (big.map .int))) (hp : σ[i]? = some (some (.ref l))) (h : H p = some (.dK (drawKeys l c rest turn mix)))
    (hc : Rp K F (.lst (cells.map .int)) c) (hF : F p = none) (hO : O p = none) (h0 : g.H0 p = none) (hM : M p = none) (hb : big.length ≤ 63) (hl : cells.length ≤ 63) (m0 : 0 ≤ mix) (m1 : mix < 2147483629) :
    Ab K g σ H (un ρ i) (updM M p .draw) F (fun b => if b = p ∨ b = l then some (.obj p) else O b) := by
  obtain ⟨v, e1, p', xs, e2, e3, e4, e5⟩ := A.sl i _ hi
  rw [hp] at e1
  cases e1
  cases e2
  have ex := e4.ints
  subst ex
  obtain ⟨_, hFl, _⟩ := A.liv l _ e5
  have h0l : g.H0 l = none := A.slo l _ e5 (fun _ z => by cases z)
  have keep : ∀ b u, O b = some u → u ≠ .slot i → (if b = p ∨ b = l then some (Ow.obj p) else O b) = some u := fun b u e n => by
    rw [if_neg]
    · exact e
    · rintro (z | z)
      · rw [z, hO] at e; cases e
      · rw [z, e5] at e; exact n (Option.some.inj e).symm
  exact { sub := A.sub, ext0 := A.ext0, new := A.new, frm := A.frm, thr := A.thr
          liv := fun b u e => by
            by_cases z : b = p ∨ b = l
            · rcases z with z | z
              · subst z; exact ⟨⟨_, h⟩, hF, .inr h0⟩
              · subst z; exact ⟨⟨_, e3⟩, hFl, .inr h0l⟩
            · rw [if_neg z] at e; exact A.liv b u e
          slo := fun b u e n => by
            by_cases z : b = p ∨ b = l
            · rw [if_pos z] at e; exact absurd (Option.some.inj e).symm (n p)
            · rw [if_neg z] at e; exact A.slo b u e n
          tm := fun q l2 e => by
            obtain ⟨ys, e1, e2, e3⟩ := A.tm q l2 e
            exact ⟨ys, e1, e2, keep q _ e3 (fun z => by cases z)⟩
          mu := fun b mo e => by
            by_cases z : b = p
            · subst z
              have e' : mo = .draw := (Option.some.inj ((if_pos rfl).symm.trans (show (if b = b then some Mo.draw else M b) = some mo from e))).symm
              subst e'
              exact ⟨l, big, cells, c, rest, turn, mix, h, e3, hc, if_pos (.inl rfl), if_pos (.inr rfl), hb, hl, m0, m1⟩
            · have e' : M b = some mo := by
                have := e
                unfold updM at this
                rw [if_neg z] at this
                exact this
              exact (A.mu b mo e').mono (Same.refl F) fun q u e1 e2 => ⟨e1, keep q _ e2 (fun z => by cases z)⟩
          len := by rw [un_len]; exact A.len
          sl := fun j sv e => by
            by_cases z : j = i
            · subst z; rw [gt_un_self] at e; cases e
            · rw [gt_un_ne z] at e
              obtain ⟨v, e1, r⟩ := A.sl j sv e
              exact ⟨v, e1, r.mono (Same.refl F) fun q xs e1 e2 => ⟨e1, keep q _ e2 (fun y => z (by cases y; rfl))⟩⟩ }
/-- behind a take: the draw at a and its list have changed, all else is as it was -/
theorem draw_after {cells big' : List Int} {c : V} {rest' turn' mix' : Int} (A : Wd K g H M F O) (hM : M a = some .draw) (hOa : O a = some (.obj a)) (hOl : O l = some (.obj a)) (hc : Rp K F (.lst (cells.map .int)) c) (hl : cells.length ≤ 63)
    (k : ∀ b o, b ≠ a → b ≠ l → H b = some o → H' b = some o) (h1 : H' a = some (.dK (drawKeys l c rest' turn' mix'))) (h2 : H' l = some (.lst (big'.map V.int))) (hb : big'.length ≤ 63) (m0 : 0 ≤ mix') (m1 : mix' < 2147483629) :
    Aft K H F O H' M F (objs O) := by
  have nf : ∀ b o, F b = some o → b ≠ a ∧ b ≠ l := fun b o e =>
    ⟨fun z => by
      obtain ⟨_, hF, _⟩ := A.liv a _ hOa
      rw [z, hF] at e; exact (nomatch e), fun z => by
      obtain ⟨_, hF, _⟩ := A.liv l _ hOl
      rw [z, hF] at e; cases e⟩
  refine ⟨?_, fun b o e => let ⟨m, e1, _⟩ := objs_of e; ⟨m, e1⟩⟩
  have thr : ∀ b o, H b = some o → ∃ o', H' b = some o' := fun b o e => by
    by_cases z : b = a
    · subst z; exact ⟨_, h1⟩
    · by_cases y : b = l
      · subst y; exact ⟨_, h2⟩
      · exact ⟨o, k b o z y e⟩
  exact { sub := fun b o e => k b o (nf b o e).1 (nf b o e).2 (A.sub b o e), ext0 := Same.refl F, new := fun b o e => .inl e
          frm := fun b o e n => k b o (fun z => n (by rw [z]; exact ⟨a, hOa⟩)) (fun z => n (by rw [z]; exact ⟨a, hOl⟩)) e
          thr := thr
          liv := fun b o e => by
            obtain ⟨m, rfl, e1⟩ := objs_of e
            obtain ⟨⟨x, hx⟩, hF, _⟩ := A.liv b _ e1
            exact ⟨thr b x hx, hF, .inl ⟨m, e1⟩⟩
          slo := fun b o e n => by
            obtain ⟨m, rfl, e1⟩ := objs_of e
            exact absurd rfl (n m)
          tm := fun p l e => absurd e (by simp)
          mu := fun b mo e => by
            by_cases z : b = a
            · subst z
              rw [hM] at e
              cases e
              exact ⟨l, big', cells, c, rest', turn', mix', h1, h2, hc, objs_to hOa, objs_to hOl, hb, hl, m0, m1⟩
            · exact (A.mu b mo e).mono (Same.refl F) fun q u e1 e2 => ⟨k q u (fun y => by rw [y, hOa] at e2; cases e2; exact z rfl) (fun y => by rw [y, hOl] at e2; cases e2; exact z rfl) e1, objs_to e2⟩ }
end
end Px

set_option Elab.async false
set_option linter.all false
set_option maxRecDepth 100000
namespace Px
open PySem PySem.Spec PyProof.Rows L2

/-! ## the two defs that make and turn a draw -/
section
variable {X : Cx} {W : WX}
/-- return {"large": large, "cells": list(script), "rest": 0, "turn": 0, "mix": 7}: script in slot 0, large in slot 1 -/
def dRetDraw : PTS := fun _ P ρ M => ∃ (big ns : List Int), gt ρ 1 = some (.own (big.map .int)) ∧ gt ρ 0 = some (.val (.scr ns)) ∧ big.length ≤ 63 ∧ ns.length ≤ 63 ∧ ∀ a, M a = none → P.rt (.raw (.ref a)) (updM M a .draw)
theorem ds_retDraw {x0 x1 : Str} {p1 p2 p3 p4 p5 p6 p7 p8 p9 p10 p11 p12 pd pr : Pos} {k1 k2 k3 k4 k5 k6 k7 k8 : Nat} (h0 : X.N[0]? = some x0) (h1 : X.N[1]? = some x1) (v0 : Vis X.env.scope x0) (v1 : Vis X.env.scope x1)
    (d0 : (x0 == ("__debug__" : Str)) = false) (d1 : (x1 == ("__debug__" : Str)) = false) (c0 : (x0 == ("__classdict__" : Str)) = false) (c1 : (x1 == ("__classdict__" : Str)) = false) (hg : Gl X "list") (hm : X.mg "list" = none)
    (he : starEach [.Name x0 p3] X.env = (false, eval (.Name x0 p3) X.env) :: starEach [] X.env := by rfl) (hpl : (backTo p4 (starEach [] X.env)).any (·.1) = false := by rfl) :
    DS X W (.Return (some (.Dict [some (.Constant (.str "large") k1 p1), some (.Constant (.str "cells") k2 p5), some (.Constant (.str "rest") k3 p6), some (.Constant (.str "turn") k4 p7), some (.Constant (.str "mix") k5 p8)]
      [.Name x1 p2, .Call (.Name "list" p9) [.Name x0 p3] [] p4, .Constant (.int 0) k6 p10, .Constant (.int 0) k7 p11, .Constant (.int 7) k8 p12] pd)) pr) dRetDraw := by
  refine ps_imp (ps_ret (pe_disp (pps_cons pe_str (pv 1 h1 v1 d1 c1) (pps_cons pe_str (pe_callTy call_list_of hg hm (by decide +kernel) (pa_cons (pv 0 h0 v0 d0 c0) pa_nil he) (by decide) (by decide) he hpl)
    (pps_cons pe_str pe_int (pps_cons pe_str pe_int (pps_cons pe_str pe_int pps_nil))))) (by rfl) (by rfl) (by simp) (by simp))) fun D σ H ⟨g, ρ, M, F, O, P, w, A, h, hw, k1, k2, _⟩ => ?_
  obtain ⟨big, ns, e1, e0, hb, hn, hq⟩ := h
  obtain ⟨v, hv, l, xs, rfl, hl, rl, hO⟩ := A.sl 1 _ e1
  obtain ⟨u, hu, a, rfl, hs⟩ := A.sl 0 _ e0
  intro p hp
  have A1 := A.laid (o := .dK []) hp
  refine ⟨.ref l, hv, .ref a, hu, a, ns.map V.int, rfl, .inl (same_l A1.sub hs), fun c hc => ?_⟩
  have A2 := A1.lay (o := .lst (ns.map V.int)) hc
  have npc : p ≠ c := fun z => by rw [← z, upd_same] at hc; cases hc
  have h2p : (upd (upd H p (.dK [])) c (.lst (ns.map V.int))) p = some (.dK []) := by rw [upd_ne npc, upd_same]
  have f2p : (upd F c (.lst (ns.map V.int))) p = none := by rw [upd_ne npc]; exact A.f0 hp
  refine ⟨h2p, [(.inr "large", .ref l), (.inr "cells", .ref c), (.inr "rest", .int 0), (.inr "turn", .int 0), (.inr "mix", .int 7)], rfl, by simp, ?_⟩
  have em : mergeK [] [((.inr "large" : Key), V.ref l), (.inr "cells", .ref c), (.inr "rest", .int 0), (.inr "turn", .int 0), (.inr "mix", .int 7)] = drawKeys l (.ref c) 0 0 7 := by
    show _ = [((.inr "large" : Key), V.ref l), (.inr "cells", .ref c), (.inr "rest", .int 0), (.inr "turn", .int 0), (.inr "mix", .int 7)]
    unfold mergeK
    simp only [List.foldl]
    rfl
  rw [em]
  have A3 := A2.poke (o := .dK (drawKeys l (.ref c) 0 0 7)) ⟨_, h2p⟩ f2p (A.o0 hp) (A.g0 hp)
  have hM : M p = none := A.m0 hp
  have A4 := A3.drawn e1 hv upd_same (cells := ns) ⟨c, ns.map V.int, rfl, upd_same, RpL.of_ints ns⟩ f2p (A.o0 hp) (A.g0 hp) hM hb hn (by decide) (by decide)
  exact k2 (.ref p) σ _ _ _ _ _ (.raw (.ref p)) A4 (same_new (A.f0 (by
    by_cases z : c = p
    · exact absurd z.symm npc
    · rw [upd_ne z] at hc; exact hc))) rfl (hq p hM)
end

/-- the reading of a take -/
def rdTake (K : PySem.W.Frag) : TS :=
  tSeq (tIfS (tAnd (tTest (tOp rEq (tDGet (tVar 0) (tC (.str "rest"))) (tC (.int 0)))) (tTest (tOp (rNeD K) (tDGet (tVar 0) (tC (.str "large"))) (tLst tNil))))
      (sDPut (tVar 0) (tC (.str "rest")) (tBM K "list" rPopAt (tDGet (tVar 0) (tC (.str "large"))) (tCons (tC (.int 0)) tNil)))
      (tIfS (tTest (tOp rEq (tDGet (tVar 0) (tC (.str "rest"))) (tC (.int 0))))
        (tSeq (sDPut (tVar 0) (tC (.str "turn")) (tOp (rI0 fun i j => .int (i + j)) (tDGet (tVar 0) (tC (.str "turn"))) (tC (.int 1))))
        (tSeq (tFor (iList K (tOp rCat (tLst (tCons (tDGet (tVar 0) (tC (.str "turn"))) tNil)) (tDGet (tVar 0) (tC (.str "cells"))))) (gName 2)
            (sDPut (tVar 0) (tC (.str "mix")) (tOp (rI (fun _ j => 0 < j) fun i j => .int (i % j)) (tCB (fun xs H Q => (∃ i, xs = [.int i] ∧ Q (.int i) H) ∨ ∃ k, xs = [.bl k] ∧ Q (.int (if k then 1 else 0)) H)
              (tCons (tOp (rI0 fun i j => .int (i + j)) (tOp (rI0 fun i j => .int (i + j)) (tOp (rI CMul fun i j => .int (i * j)) (tDGet (tVar 0) (tC (.str "mix"))) (tC (.int 69621))) (tOp (rI CMul fun i j => .int (i * j)) (tVar 2) (tC (.int 48271)))) (tC (.int 12345))) tNil)) (tC (.int 2147483629)))))
          (sDPut (tVar 0) (tC (.str "rest")) (tOp (rI (fun _ j => 0 < j) fun i j => .int (i % j)) (tCB (fun xs H Q => (∃ i, xs = [.int i] ∧ Q (.int i) H) ∨ ∃ k, xs = [.bl k] ∧ Q (.int (if k then 1 else 0)) H)
              (tCons (tOp (rI CPow fun i j => .int (i ^ j.toNat)) (tDGet (tVar 0) (tC (.str "mix"))) (tC (.int 5))) tNil)) (tC (.int 2305843009213693951))))))
        tNext))
  (tSeq (tAsg (tCB (fun xs H Q => ∃ i j, xs = [.int i, .int j] ∧ CDivP i j ∧ ∀ p, H p = none → Q (.ref p) (upd H p (.tup [.int (i / j), .int (i % j)]))) (tCons (tDGet (tVar 0) (tC (.str "rest"))) (tCons (tVar 1) tNil)))
      (gTup K 2 (gCons (gSub (tVar 0) (tC (.str "rest")) rSetD) (gCons (gName 3) gNil))))
    (tRet (tVar 3)))
section
variable {H : Hp} {a l : Addr} {c : V} {r t m : Int}
theorem get_rest (h : H a = some (.dK (drawKeys l c r t m))) : DGet H a (.str "rest") (some (.int r)) := DGet.k (k := (Sum.inr "rest" : Key)) h
theorem get_turn (h : H a = some (.dK (drawKeys l c r t m))) : DGet H a (.str "turn") (some (.int t)) := DGet.k (k := (Sum.inr "turn" : Key)) h
theorem get_mix (h : H a = some (.dK (drawKeys l c r t m))) : DGet H a (.str "mix") (some (.int m)) := DGet.k (k := (Sum.inr "mix" : Key)) h
theorem get_large (h : H a = some (.dK (drawKeys l c r t m))) : DGet H a (.str "large") (some (.ref l)) := DGet.k (k := (Sum.inr "large" : Key)) h
theorem get_cells (h : H a = some (.dK (drawKeys l c r t m))) : DGet H a (.str "cells") (some c) := DGet.k (k := (Sum.inr "cells" : Key)) h
theorem keys_len : (drawKeys l c r t m).length < sizeLine := by
  show 5 < sizeLine
  decide
theorem put_rest (v : Int) (h : H a = some (.dK (drawKeys l c r t m))) : DPut H a (.str "rest") (.int v) (upd H a (.dK (drawKeys l c v t m))) := DPut.k (k := (Sum.inr "rest" : Key)) (v := .int v) h keys_len
theorem put_turn (v : Int) (h : H a = some (.dK (drawKeys l c r t m))) : DPut H a (.str "turn") (.int v) (upd H a (.dK (drawKeys l c r v m))) := DPut.k (k := (Sum.inr "turn" : Key)) (v := .int v) h keys_len
theorem put_mix (v : Int) (h : H a = some (.dK (drawKeys l c r t m))) : DPut H a (.str "mix") (.int v) (upd H a (.dK (drawKeys l c r t v))) := DPut.k (k := (Sum.inr "mix" : Key)) (v := .int v) h keys_len
end
theorem dp_ints {K : PySem.W.Frag} {H : Hp} : ∀ ns : List Int, DpAll K H (ns.map V.int) (ns.map PyData.int)
  | [] => .nil
  | n :: ns => .cons (.int n) (dp_ints ns)
theorem ints_shaped (ns : List Int) : SeqAt.shaped (.list (ns.map PyData.int)) = true := by
  have h1 : ∀ ns : List Int, PyData.canLayAll0 (ns.map PyData.int) = true ∧ PyData.depthAll (ns.map PyData.int) ≤ 0 := by
    intro ns
    induction ns with
    | nil => exact ⟨rfl, Nat.le_refl _⟩
    | cons n ns ih => exact ⟨by show (true && PyData.canLayAll0 (ns.map PyData.int)) = true; rw [ih.1]; rfl, by show max 0 (PyData.depthAll (ns.map PyData.int)) ≤ 0; omega⟩
  unfold SeqAt.shaped
  rw [Bool.and_eq_true_iff]
  exact ⟨(h1 ns).1, decide_eq_true (by show PyData.depthAll (ns.map PyData.int) + 1 ≤ 64; have := (h1 ns).2; omega)⟩
/-- the draw as it goes through a take -/
structure DrawSt (H H' : Hp) (a l : Addr) (c : V) (σ : L2.St) (n r t m : Int) (big : List Int) : Prop where
  s : ∃ y z, σ = [some (.ref a), some (.int n), y, z]
  k : ∀ b o, b ≠ a → b ≠ l → H b = some o → H' b = some o
  d : H' a = some (.dK (drawKeys l c r t m))
  b : H' l = some (.lst (big.map V.int))
section
variable {K : PySem.W.Frag} {H H' : Hp} {a l p : Addr} {c : V} {σ : L2.St} {n r t m r' t' m' : Int} {big big' : List Int} {o : HO}
theorem DrawSt.ne (S : DrawSt H H' a l c σ n r t m big) : a ≠ l := fun z => by
  have h1 := S.d
  rw [z, S.b] at h1
  cases h1
theorem DrawSt.new (S : DrawSt H H' a l c σ n r t m big) (hp : H' p = none) : DrawSt H (upd H' p o) a l c σ n r t m big where
  s := S.s
  k := fun b u h1 h2 e => by
    have z := S.k b u h1 h2 e
    rw [upd_ne (fun y => by rw [y, hp] at z; cases z)]
    exact z
  d := by rw [upd_ne (fun y => by have z := S.d; rw [y, hp] at z; cases z)]; exact S.d
  b := by rw [upd_ne (fun y => by have z := S.b; rw [y, hp] at z; cases z)]; exact S.b
theorem DrawSt.put (S : DrawSt H H' a l c σ n r t m big) : DrawSt H (upd H' a (.dK (drawKeys l c r' t' m'))) a l c σ n r' t' m' big where
  s := S.s
  k := fun b u h1 h2 e => by rw [upd_ne h1]; exact S.k b u h1 h2 e
  d := upd_same
  b := by rw [upd_ne S.ne.symm]; exact S.b
/-- the end of a take -/
theorem take_tail {D : Ends} (S : DrawSt H H' a l c σ n r t m big) (h0 : 0 < n) (h1 : n.natAbs.log2 < 9000) (hq : ∀ H2, DrawSt H H2 a l c [some (.ref a), some (.int n), none, none] n (r / n) t m big → D.rt (.int (r % n)) H2) :
    tSeq (tAsg (tCB (fun xs H Q => ∃ i j, xs = [.int i, .int j] ∧ CDivP i j ∧ ∀ p, H p = none → Q (.ref p) (upd H p (.tup [.int (i / j), .int (i % j)]))) (tCons (tDGet (tVar 0) (tC (.str "rest"))) (tCons (tVar 1) tNil)))
      (gTup K 2 (gCons (gSub (tVar 0) (tC (.str "rest")) rSetD) (gCons (gName 3) gNil)))) (tRet (tVar 3)) D σ H' := by
  obtain ⟨y, z, rfl⟩ := S.s
  refine ⟨.ref a, rfl, a, .int r, rfl, get_rest S.d, .int n, rfl, r, n, rfl, ⟨h0, PyProof.noPylong_of_log2 h1⟩, fun p hp => ?_⟩
  have S2 := S.new (o := .tup [.int (r / n), .int (r % n)]) hp
  refine ⟨p, _, rfl, .inl (.inl upd_same), rfl, .int (r / n), [.int (r % n)], rfl, .ref a, rfl, a, _, rfl, put_rest (r / n) S2.d, .int (r % n), [], rfl, rfl, .int (r % n), rfl, ?_⟩
  have S3 := S2.put (r' := r / n) (t' := t) (m' := m)
  exact hq _ ⟨⟨none, none, rfl⟩, S3.k, S3.d, S3.b⟩
end
end Px

set_option Elab.async false
set_option linter.all false
set_option maxRecDepth 100000
namespace Px
open PySem PySem.Spec PyProof.Rows L2
theorem itT {c : Bool} {A B : Prop} (hc : c = true) (h : A) : if c = true then A else B := by
  rw [if_pos hc]
  exact h
theorem itF {c : Bool} {A B : Prop} (hc : c = false) (h : B) : if c = true then A else B := by
  rw [hc, if_neg Bool.false_ne_true]
  exact h
theorem seq0 {n : Nat} (h : 0 < n) : seqIndex? (0 : Int) n = some 0 := PySem.StrLaws.seqIndex_nonneg (i := 0) (Int.le_refl 0) (by omega)
section
variable {K : PySem.W.Frag} {H H' : Hp} {a l : Addr} {c : V} {σ : L2.St} {n r t m : Int} {big : List Int}
/-- the turn of all cells, then the new rest -/
theorem take_mix {D : Ends} {ca : Addr} {cells : List Int} (S : DrawSt H H' a l (.ref ca) σ n r t m big) (hc : ∀ H2, DrawSt H H2 a l (.ref ca) σ n r (t + 1) m big → H2 ca = some (.lst (cells.map V.int))) (hca : ca ≠ a ∧ ca ≠ l) (hl : cells.length ≤ 63) (m0 : 0 ≤ m) (m1 : m < 2147483629)
    (hq : ∀ H2 σ2 r2 t2 m2, 0 ≤ m2 → m2 < 2147483629 → DrawSt H H2 a l (.ref ca) σ2 n r2 t2 m2 big → D.nx σ2 H2) :
    tSeq (sDPut (tVar 0) (tC (.str "turn")) (tOp (rI0 fun i j => .int (i + j)) (tDGet (tVar 0) (tC (.str "turn"))) (tC (.int 1))))
        (tSeq (tFor (iList K (tOp rCat (tLst (tCons (tDGet (tVar 0) (tC (.str "turn"))) tNil)) (tDGet (tVar 0) (tC (.str "cells"))))) (gName 2)
            (sDPut (tVar 0) (tC (.str "mix")) (tOp (rI (fun _ j => 0 < j) fun i j => .int (i % j)) (tCB (fun xs H Q => (∃ i, xs = [.int i] ∧ Q (.int i) H) ∨ ∃ k, xs = [.bl k] ∧ Q (.int (if k then 1 else 0)) H)
              (tCons (tOp (rI0 fun i j => .int (i + j)) (tOp (rI0 fun i j => .int (i + j)) (tOp (rI CMul fun i j => .int (i * j)) (tDGet (tVar 0) (tC (.str "mix"))) (tC (.int 69621))) (tOp (rI CMul fun i j => .int (i * j)) (tVar 2) (tC (.int 48271)))) (tC (.int 12345))) tNil)) (tC (.int 2147483629)))))
          (sDPut (tVar 0) (tC (.str "rest")) (tOp (rI (fun _ j => 0 < j) fun i j => .int (i % j)) (tCB (fun xs H Q => (∃ i, xs = [.int i] ∧ Q (.int i) H) ∨ ∃ k, xs = [.bl k] ∧ Q (.int (if k then 1 else 0)) H)
              (tCons (tOp (rI CPow fun i j => .int (i ^ j.toNat)) (tDGet (tVar 0) (tC (.str "mix"))) (tC (.int 5))) tNil)) (tC (.int 2305843009213693951))))) D σ H' := by
  obtain ⟨y, z, rfl⟩ := S.s
  refine ⟨.ref a, rfl, a, .int t, rfl, get_turn S.d, t, 1, rfl, rfl, .ref a, rfl, a, _, rfl, put_turn (t + 1) S.d, ?_⟩
  have S1 := S.put (r' := r) (t' := t + 1) (m' := m)
  refine ⟨.ref a, rfl, a, .int (t + 1), rfl, get_turn S1.d, by show 1 ≤ sizeLine; decide, fun p hp => ?_⟩
  have S2 := S1.new (o := .lst [.int (t + 1)]) hp
  have h2c := hc _ S2
  refine ⟨.ref a, rfl, a, .ref ca, rfl, get_cells S2.d, p, ca, _, _, rfl, rfl, upd_same, h2c, by rw [List.length_map]; exact line_big (by show 1 + cells.length ≤ 1000000; omega), fun q hq2 => ?_⟩
  have S3 := S2.new (o := .lst ([V.int (t + 1)] ++ cells.map V.int)) hq2
  refine ⟨q, rfl, ⟨_, .inl (.inl upd_same)⟩, for_list (xs := [V.int (t + 1)] ++ cells.map V.int) (fun i σ' H2 => ∃ m', 0 ≤ m' ∧ m' < 2147483629 ∧ DrawSt H H2 a l (.ref ca) σ' n r (t + 1) m' big ∧ H2 q = some (.lst ([V.int (t + 1)] ++ cells.map V.int)))
    ⟨m, m0, m1, S3, upd_same⟩ (fun i σ' H2 _ ⟨m', _, _, _, h⟩ => .inl (.inl h)) (fun i x σ' H2 hx ⟨m', h0, h1, S4, hq4⟩ => ?_) (fun σ' H2 ⟨m', h0, h1, S4, hq4⟩ => ?_)⟩
  · obtain ⟨k, rfl⟩ : ∃ k, x = V.int k := by
      rcases List.mem_append.mp (List.mem_of_getElem? hx) with z | z
      · exact ⟨_, List.mem_singleton.mp z⟩
      · obtain ⟨k, _, e⟩ := List.mem_map.mp z
        exact ⟨k, e.symm⟩
    obtain ⟨y', z', rfl⟩ := S4.s
    refine ⟨.ref a, rfl, a, .int m', rfl, get_mix S4.d, m', 69621, rfl, rfl, .inr ⟨by decide, by decide⟩, .int k, rfl, k, 48271, rfl, rfl, .inr ⟨by decide, by decide⟩, m' * 69621, k * 48271, rfl, rfl, m' * 69621 + k * 48271, 12345, rfl, rfl,
      .inl ⟨m' * 69621 + k * 48271 + 12345, rfl, m' * 69621 + k * 48271 + 12345, 2147483629, rfl, rfl, (show (0 : Int) < 2147483629 by decide), .ref a, rfl, a, _, rfl, put_mix ((m' * 69621 + k * 48271 + 12345) % 2147483629) S4.d, ?_⟩⟩
    refine ⟨(m' * 69621 + k * 48271 + 12345) % 2147483629, Int.emod_nonneg _ (by decide), Int.emod_lt_of_pos _ (by decide), ?_, ?_⟩
    · have S5 := S4.put (r' := r) (t' := t + 1) (m' := (m' * 69621 + k * 48271 + 12345) % 2147483629)
      exact ⟨⟨some (.int k), z', rfl⟩, S5.k, S5.d, S5.b⟩
    · rw [upd_ne (fun z => by have := S4.d; rw [← z, hq4] at this; cases this)]
      exact hq4
  · obtain ⟨y', z', rfl⟩ := S4.s
    refine ⟨.ref a, rfl, a, .int m', rfl, get_mix S4.d, m', 5, rfl, rfl, ⟨by decide, by decide, ?_⟩, .inl ⟨m' ^ (5 : Int).toNat, rfl, m' ^ (5 : Int).toNat, 2305843009213693951, rfl, rfl, (show (0 : Int) < 2305843009213693951 by decide), .ref a, rfl, a, _, rfl, put_rest ((m' ^ (5 : Int).toNat) % 2305843009213693951) S4.d, ?_⟩⟩
    · have e : (2 : Nat) ^ 64 = 18446744073709551616 := by decide
      rw [e]; omega
    · exact hq _ _ _ _ m' h0 h1 S4.put
end
theorem draw_is {K : PySem.W.Frag} {F H : Hp} {O : Own} {a : Addr} (h : MoOk K F H O a .draw) : ∃ (l : Addr) (big cells : List Int) (c : V) (rest turn mix : Int), H a = some (.dK (drawKeys l c rest turn mix)) ∧ H l = some (.lst (big.map V.int)) ∧ Rp K F (.lst (cells.map .int)) c ∧
      O a = some (.obj a) ∧ O l = some (.obj a) ∧ big.length ≤ 63 ∧ cells.length ≤ 63 ∧ 0 ≤ mix ∧ mix < 2147483629 := h
theorem take_run {K : PySem.W.Frag} {vs : List V} {H : Hp} {Q : VK} {E : XK} {N : List Str} (hN : N.length = 4) (h : toSp K 2 sp_take vs H Q E) : rdTake K { nx := fun _ H' => Q .non H', rt := Q } (L2.start N vs) H := by
  obtain ⟨g, F, M, O, ds, q, e, _, A, rp, hsp, hQ, _⟩ := h
  obtain ⟨d, n', rfl, h⟩ := ar2_of hsp
  obtain ⟨a, rfl, hM, h⟩ := asDraw_of h
  obtain ⟨n, rfl, ⟨hn0, hn1⟩, hk⟩ := asI_of h
  obtain ⟨v1, r1, rfl, hv1, v2, r2, rfl, hv2, hr2⟩ := rp
  have hr2 : r2 = [] := hr2
  have hv1 : v1 = .ref a := hv1
  have hv2 : v2 = .int n := hv2
  subst hr2 hv1 hv2
  obtain ⟨l, big, cells, c, rest, turn, mix, h1, h2, hc, o1, o2, hb, hl, m0, m1⟩ := draw_is (A.mu a _ hM)
  obtain ⟨ca, cxs, rfl, hF, rc⟩ := id hc
  have ex := rc.ints
  subst ex
  have nf : ∀ b o, F b = some o → b ≠ a ∧ b ≠ l := fun b o e => by
    constructor
    · intro z
      obtain ⟨_, hF, _⟩ := A.liv a _ o1
      rw [z, hF] at e
      cases e
    · intro z
      obtain ⟨_, hF, _⟩ := A.liv l _ o2
      rw [z, hF] at e
      cases e
  have es : L2.start N [V.ref a, V.int n] = [some (.ref a), some (.int n), none, none] := by
    unfold L2.start
    rw [hN]; rfl
  rw [es]
  have S : DrawSt H H a l (.ref ca) [some (.ref a), some (.int n), none, none] n rest turn mix big := ⟨⟨none, none, rfl⟩, fun _ _ _ _ e => e, h1, h2⟩
  -- what is left behind
  have fin : ∀ {H2 : Hp} {σ2 : L2.St} {big2 : List Int} {r2 t2 m2 : Int}, big2.length ≤ 63 → 0 ≤ m2 → m2 < 2147483629 → DrawSt H H2 a l (.ref ca) σ2 n r2 t2 m2 big2 →
      tSeq (tAsg (tCB (fun xs H Q => ∃ i j, xs = [.int i, .int j] ∧ CDivP i j ∧ ∀ p, H p = none → Q (.ref p) (upd H p (.tup [.int (i / j), .int (i % j)]))) (tCons (tDGet (tVar 0) (tC (.str "rest"))) (tCons (tVar 1) tNil)))
        (gTup K 2 (gCons (gSub (tVar 0) (tC (.str "rest")) rSetD) (gCons (gName 3) gNil)))) (tRet (tVar 3)) { nx := fun _ H' => Q .non H', rt := Q } σ2 H2 := fun {H2 σ2 big2 r2 t2 m2} hb2 q0 q1 S2 =>
    take_tail S2 hn0 hn1 fun H3 S3 => hQ (.int (r2 % n)) H3 F (objs O) M (.int (r2 % n)) (draw_after A hM o1 o2 hc hl S3.k S3.d S3.b hb2 q0 q1) rfl (hk (r2 % n) (Int.emod_nonneg _ (by omega)) (Int.emod_lt_of_pos _ hn0))
  have mixed : ∀ {H2 : Hp} {σ2 : L2.St}, DrawSt H H2 a l (.ref ca) σ2 n rest turn mix big → _ := fun {H2 σ2} S2 =>
    take_mix (K := K) (D := { nx := tSeq (tAsg (tCB (fun xs H Q => ∃ i j, xs = [.int i, .int j] ∧ CDivP i j ∧ ∀ p, H p = none → Q (.ref p) (upd H p (.tup [.int (i / j), .int (i % j)]))) (tCons (tDGet (tVar 0) (tC (.str "rest"))) (tCons (tVar 1) tNil)))
        (gTup K 2 (gCons (gSub (tVar 0) (tC (.str "rest")) rSetD) (gCons (gName 3) gNil)))) (tRet (tVar 3)) { nx := fun _ H' => Q .non H', rt := Q }, rt := Q }) S2
      (fun H3 S3 => S3.k _ _ (nf _ _ hF).1 (nf _ _ hF).2 (A.sub _ _ hF)) (nf _ _ hF) hl m0 m1 fun H3 σ3 r3 t3 m3 q0 q1 S3 => fin hb q0 q1 S3
  refine ⟨.ref a, rfl, a, .int rest, rfl, get_rest h1, rfl, _, rfl, ?_⟩
  by_cases hr : rest = 0
  · refine itT (decide_eq_true (by rw [hr])) ?_
    refine ⟨.ref a, rfl, a, .ref l, rfl, get_large h1, Nat.zero_le _, fun p hp => ?_⟩
    have S2 := S.new (o := .lst []) hp
    refine ⟨.list (big.map PyData.int), .list [], .lst (.inl (.inl S2.b)) (dp_ints big), .lst (.inl (.inl upd_same)) .nil, ints_shaped big, ints_shaped [], _, rfl, ?_⟩
    cases big with
    | nil =>
      refine iteF ?_
      exact ⟨.ref a, rfl, a, .int rest, rfl, get_rest S2.d, rfl, _, rfl, itT (decide_eq_true (by rw [hr])) (mixed S2)⟩
    | cons b0 br =>
      refine iteT ?_
      refine ⟨.ref a, rfl, a, .ref l, rfl, get_large S2.d, .inl ⟨rfl, _, .inl (.inl S2.b)⟩, l, _, 0, 0, .int b0, rfl, rfl, S2.b, by decide, by decide, seq0 (by simp), rfl, .ref a, rfl, a,
        upd (upd (upd H p (.lst [])) l (.lst (br.map V.int))) a (.dK (drawKeys l (.ref ca) b0 turn mix)), rfl, ?_, ?_⟩
      · exact put_rest b0 (by
          show (upd (upd H p (.lst [])) l (.lst (br.map V.int))) a = _
          rw [upd_ne S2.ne]; exact S2.d)
      · refine fin (big2 := br) (by have := hb; rw [List.length_cons] at this; omega) m0 m1 (r2 := b0) (t2 := turn) (m2 := mix) ⟨⟨none, none, rfl⟩, fun b o z1 z2 e => ?_, upd_same, ?_⟩
        · rw [upd_ne z1, upd_ne z2]; exact S2.k b o z1 z2 e
        · rw [upd_ne S2.ne.symm, upd_same]
  · refine itF (decide_eq_false fun z => hr (V.int.inj z)) ?_
    refine iteF ?_
    refine ⟨.ref a, rfl, a, .int rest, rfl, get_rest h1, rfl, _, rfl, ?_⟩
    exact itF (decide_eq_false fun z => hr (V.int.inj z)) (fin hb m0 m1 S)
end Px

set_option Elab.async false
set_option linter.all false
set_option maxRecDepth 100000
namespace Px
open PySem PySem.Spec PyProof.Rows L2

/-! ## the law's own call -/
/-- what the law's def promises -/
def sp_law : PSp := fun ds M q _ => ar1 ds fun d => match d with | .scr ns => ns.length ≤ 63 ∧ q (.bl true) M | _ => False
/-- the script alone is tracked; or (it is an object of the text) nothing -/
def trackS (a : Addr) (o : Obj) (xs : List V) : Hp := fun b => if b = a then some (.frz o (.lst xs)) else none
theorem trackS_at {a : Addr} {o : Obj} {xs : List V} : trackS a o xs a = some (.frz o (.lst xs)) := if_pos rfl
theorem trackS_ne {a b : Addr} {o : Obj} {xs : List V} (h : b ≠ a) : trackS a o xs b = none := if_neg h
section
variable {P : Program} {w : World} {K : PySem.W.Frag} {mg mb : Str → Option Value} {k : Nat} {fa a : Addr} {fd : FuncData} {x : Str} {s₁ : Shared} {vs : List Value} {ns : List Int}
abbrev GoodEnd (s₁ : Shared) : Result → Shared → Prop := fun r s' => r = .ok (.ret (.bool true)) ∧ OldK s₁.heap s'.heap ∧ s'.os = s₁.os ∧ AllBare s'.gens
theorem law_from (H : Hp) (KX : K.In s₁.heap) (hns : s₁.heap.Ns mainGlobals mg) (hb : s₁.heap.Ns builtinsNs mb) (hbb : ∀ x : Str, x ≠ "__name__" → mb x = bootBuiltins x) (hlim : s₁.heap.NoLimit) (hg : s₁.gens = #[])
    (ha : s₁.heap.get? a = some { cls := .type "list", data := .seq vs.toArray }) (hl : ns.length ≤ 63) (hr : Room k callerA) (G : ∀ base : Heap, K.In base → base.Ns mainGlobals mg → FnG P w K mg base k fa fd [x] (toSp K 1 sp_law))
    (hbind : ∀ (s : Shared) (u : Value), BindsTo s fd ⟨[u], []⟩ [(x, u)]) (hO : ∀ b, H b = none ∨ ∃ o xs, H b = some (.frz o (.lst xs))) (hS : SqL K H a (ns.map V.int)) (hok : HOk P w H s₁.heap) (hA : ∀ b, H b ≠ none → b = a) (hK : H a ≠ none → K.lookup a = none) :
    codeAny (model P w) callerA (.call (.ref fa) ⟨[.ref a], []⟩) (GoodEnd s₁) s₁ := by
  have free_dict : ∀ {b : Addr} {u : Obj} {es : Array DictEntry} {ep : Nat}, s₁.heap.get? b = some u → u.data = .dict es ep → H b = none := by
    intro b u es ep e d
    by_cases z : H b = none
    · exact z
    · have y := hA b z
      rw [y, ha] at e
      cases e
      exact absurd (show Data.seq vs.toArray _ = Data.dict es ep from d) (fun z => by cases z)
  have ns_of : ∀ {b : Addr} {m : Str → Option Value}, s₁.heap.Ns b m → (hidT s₁.heap H).Ns b m := by
    rintro b m ⟨u, es, ep, e, d, r⟩
    exact ⟨u, es, ep, hidT_get e (free_dict e d), d, r⟩
  have kb : K.In (hidT s₁.heap H) := by
    intro b u e
    refine hidT_get (KX b u e) ?_
    by_cases z : H b = none
    · exact z
    · have y := hA b z
      rw [y] at e z
      rw [hK z] at e
      cases e
  have lim2 : (hidT s₁.heap H).NoLimit := by
    obtain ⟨mc, q1, q2⟩ := hlim
    exact ⟨mc, ns_of q1, q2⟩
  have md : Mod K mg (hidT s₁.heap H) := ⟨kb, ns_of hns, ⟨mb, ns_of hb, hbb⟩, lim2⟩
  have nofr : ∀ b ∈ frs ([] : List Env), H b = none := fun b hm => nomatch hm
  have e0 : Env0 P w K mg (hidT s₁.heap H) callerA [] s₁ H := { frames := rfl, mod := md, bs := fun b u e => of_hidT e, bsz := Nat.le_of_eq (hidT_size _ _), funs := trivial, frf := nofr, hok := hok, bare := .of_eq hg }
  have prom : toSp K 1 sp_law [.ref a] H (fun v _ => v = .bl true) (fun _ _ _ => False) := by
    refine ⟨⟨H, H, fun _ => False, []⟩, H, fun _ => none, fun _ => none, [.scr ns], fun d _ => d = .bl true, fun _ _ _ => False, rfl, ?_, ⟨.ref a, [], rfl, ⟨a, rfl, hS⟩, rfl⟩, ⟨hl, rfl⟩, fun v H' F' O' M' d _ r e => ?_, fun _ _ _ _ _ _ _ _ _ z => z⟩
    · exact { sub := fun _ _ e => e, ext0 := fun _ _ e => e, new := fun _ _ e => .inl e, frm := fun _ _ e _ => e, thr := fun _ u e => ⟨u, e⟩, liv := fun _ _ e => (nomatch e), slo := fun _ _ e => (nomatch e), tm := fun _ _ e => (nomatch e), mu := fun _ _ e => (nomatch e) }
    · have e' : d = .bl true := e
      subst e'
      exact r
  refine codeAny_mono ((G _ kb (ns_of hns)).run callerA [] s₁ H ⟨[.ref a], []⟩ [.ref a] [.ref a] _ _ hr rfl e0 (hbind s₁ (.ref a)) (.cons rfl .nil) prom) ?_
  intro r s' h
  cases r with
  | error e =>
    obtain ⟨_, _, _, _, _, _, _, _, _, _, _, _, z⟩ := h
    exact z.elim
  | ok fl =>
    cases fl with
    | ret u =>
      obtain ⟨v, H', h1, h2, un, hok', rv, q⟩ := h
      have q' : v = .bl true := q
      subst q'
      have eu : u = Value.bool true := rv
      subst eu
      refine ⟨rfl, OldK.of_keep fun b u e => ?_, h1, h2⟩
      rcases hO b with z | ⟨ob, xs, z⟩
      · exact un.keep b u e z (fun y => nomatch y) (fun y => nomatch y)
      · obtain ⟨e1, _⟩ := hok b _ z
        obtain ⟨e2, _⟩ := hok' b _ (un.frzs b ob _ z)
        rw [e] at e1
        cases e1
        exact e2
    | next => exact h.elim
    | brk => exact h.elim
    | cont => exact h.elim
theorem law_end (KX : K.In s₁.heap) (hns : s₁.heap.Ns mainGlobals mg) (hb : s₁.heap.Ns builtinsNs mb) (hbb : ∀ x : Str, x ≠ "__name__" → mb x = bootBuiltins x) (hlim : s₁.heap.NoLimit) (hg : s₁.gens = #[])
    (ha : s₁.heap.get? a = some { cls := .type "list", data := .seq vs.toArray }) (hi : IntsAre vs ns) (hl : ns.length ≤ 63) (hr : Room k callerA) (G : ∀ base : Heap, K.In base → base.Ns mainGlobals mg → FnG P w K mg base k fa fd [x] (toSp K 1 sp_law))
    (hbind : ∀ (s : Shared) (u : Value), BindsTo s fd ⟨[u], []⟩ [(x, u)]) : codeAny (model P w) callerA (.call (.ref fa) ⟨[.ref a], []⟩) (GoodEnd s₁) s₁ := by
  have rv := vals_ints hi
  have hz : ns.length ≤ sizeLine := Nat.le_trans hl (by decide)
  cases hk : K.lookup a with
  | some o =>
    have e := KX a o hk
    rw [ha] at e
    cases e
    exact law_from (fun _ => none) KX hns hb hbb hlim hg ha hl hr G hbind (fun _ => .inl rfl) (.inr ⟨_, vs.toArray, _, hk, rfl, rfl, rfl, by rw [List.size_toArray, ← hi.length] at *; simpa using hz, by simpa using rv⟩) (fun _ _ z => nomatch z) (fun _ z => absurd rfl z) (fun z => absurd rfl z)
  | none =>
    refine law_from (trackS a { cls := .type "list", data := .seq vs.toArray } (ns.map V.int)) KX hns hb hbb hlim hg ha hl hr G hbind (fun b => ?_) (.inl (.inr ⟨_, trackS_at⟩)) (fun b u z => ?_) (fun b z => ?_) (fun _ => hk)
    · by_cases y : b = a
      · exact .inr ⟨_, _, by rw [y]; exact trackS_at⟩
      · exact .inl (trackS_ne y)
    · by_cases y : b = a
      · subst y
        rw [trackS_at] at z
        cases z
        exact ⟨ha, by rw [List.length_map]; exact hz, vs, _, rv, ha⟩
      · rw [trackS_ne y] at z
        cases z
    · by_cases y : b = a
      · exact y
      · exact absurd (trackS_ne y) z
end
/-- the goal that the head leaves, from the law's promise -/
theorem walk_g {l : PySem.W.OpenLaw} {k : Nat} {q : Program} {loose : List Str} {XP : (Str → Option Value) → Heap → Prop} {YP : World → Heap → Prop} {d : DefRec} {K : Params → PySem.W.Frag} {x : Str} (hn : l.most = some 63) (hdf : d.params.defaults = []) (hr : Room k callerA)
    (hY : ∀ (w : World) (h : Heap), YP w h → (K w.params).In h)
    (G : ∀ (w : World) (mg : Str → Option Value) (fa : Addr) (h : Heap), (K w.params).In h → h.Ns mainGlobals mg → mg d.name = some (.ref fa) →
      ∃ fd : FuncData, (∀ (s : Shared) (u : Value), BindsTo s fd ⟨[u], []⟩ [(x, u)]) ∧ ∀ base : Heap, (K w.params).In base → base.Ns mainGlobals mg → FnG l.prog w (K w.params) mg base k fa fd [x] (toSp (K w.params) 1 sp_law)) :
    PySem.W.WalkO q loose XP YP l.row.toRowW d [] (fun f vs => PySem.call f vs) := by
  refine Att.attach_call hn hdf fun w s₀ s₁ mg mb fa o pm cd doc a vs ns G0 Y ho hd hcd hmg hobj hints hlen hg => ?_
  obtain ⟨fd, hbd, hF⟩ := G w mg fa _ (hY w _ Y) G0.T.g hmg
  exact law_end (hY w _ Y) G0.T.g G0.T.b G0.T.builtins G0.T.nolimit hg hobj hints hlen hr hF hbd
end Px

set_option Elab.async false
set_option linter.all false
set_option maxRecDepth 100000
namespace Px
open PySem PySem.Spec PyProof.Rows L2

/-! ## what all claims share: facts of the text, draws' two defs, loops -/
theorem ar1_len {ds : List D} {f : D → Prop} (h : ar1 ds f) : ds.length = 1 := by obtain ⟨_, rfl, _⟩ := ar1_of h; rfl
theorem ar2_len {ds : List D} {f : D → D → Prop} (h : ar2 ds f) : ds.length = 2 := by obtain ⟨_, _, rfl, _⟩ := ar2_of h; rfl
theorem ar3_len {ds : List D} {f : D → D → D → Prop} (h : ar3 ds f) : ds.length = 3 := by obtain ⟨_, _, _, rfl, _⟩ := ar3_of h; rfl
theorem ar4_len {ds : List D} {f : D → D → D → D → Prop} (h : ar4 ds f) : ds.length = 4 := by obtain ⟨_, _, _, _, rfl, _⟩ := ar4_of h; rfl
/-- a def of the text, where it stands -/
structure DefT (K : PySem.W.Frag) (mg : Str → Option Value) (x : Str) (stm : Stmt) (ps : List Str) (a : Addr) (fd : FuncData) : Prop where
  f : L2.Fun K x x stm a fd
  b : Binds K fd ps []
  g : mg x = some (.ref a)
theorem dg0 {X : Cx} {k : Nat} {x : Str} {p p2 p3 : Pos} {j : Nat} (hr : Room k X.A) (s : Str) (hN : X.N[0]? = some x := by rfl) (hv : Vis X.env.scope x := by first | exact Or.inl rfl | exact Or.inr (Or.inl rfl) | exact Or.inr (Or.inr rfl)) (hd : (x == ("__debug__" : Str)) = false := by decide)
    (hcd : (x == ("__classdict__" : Str)) = false := by decide) : PE X (.Subscript (.Name x p) (.Constant (.str s) j p2) p3) (tDGet (tVar 0) (tC (.str s))) := pe_dget (hu_of hr) (pv 0 hN hv hd hcd) pe_str (by intro _ _; rfl)
theorem de_gintE {X : Cx} {W : WX} {pos : Pos} {x : Str} {i : Int} (hg : Gl X x) (hm : ∃ t, X.mg x = some (.int i t)) (hd : (x == ("__debug__" : Str)) = false := by decide) : DE X W (.Name x pos) (dC (.int i)) := hm.elim fun _ h => de_gint hg h hd
theorem de_gstrE {X : Cx} {W : WX} {pos : Pos} {x y : Str} (hg : Gl X x) (hm : ∃ t, X.mg x = some (.str y t)) (hd : (x == ("__debug__" : Str)) = false := by decide) : DE X W (.Name x pos) (dC (.str y)) := hm.elim fun _ h => de_gstr hg h hd
/-- a loop keeps what it keeps -/
theorem forR_inv {gd : PTG} {pb : PTS} {w : PWi} {P : PEnds} (I : Rho → Mm → Prop) : ∀ (ds : List D), (∀ d ∈ ds, ∀ F : Rho → Mm → Prop, (∀ ρ M, I ρ M → F ρ M) → ∀ ρ M, I ρ M → gd d ρ fun ρ' => pb w { P with nx := F, ct := F, bk := P.nx } ρ' M) →
    (∀ ρ M, I ρ M → P.nx ρ M) → ∀ ρ M, I ρ M → forR gd pb w ds P ρ M
  | [], _, he, ρ, M, h => he ρ M h
  | d :: ds, hb, he, ρ, M, h => hb d List.mem_cons_self _ (forR_inv I ds (fun d' hd' => hb d' (List.mem_cons_of_mem _ hd')) he) ρ M h
theorem updM_same {M : Mm} {a : Addr} {mo : Mo} : updM M a mo a = some mo := if_pos rfl
theorem updM_le {M : Mm} {a : Addr} {mo : Mo} (h : M a = none) : MLe M (updM M a mo) := fun b m e => by
  show (if b = a then some mo else M b) = some m
  rw [if_neg (fun z => by rw [z, h] at e; exact nomatch e)]
  exact e
theorem rngD_mem {lo : Int} {n : Nat} {d : D} (h : d ∈ rngD lo n) : ∃ i : Int, d = .int i ∧ lo ≤ i ∧ i < lo + n := by
  obtain ⟨i, hi, rfl⟩ := List.mem_map.mp h
  have := List.mem_range.mp hi
  exact ⟨lo + i, rfl, by omega, by omega⟩
/-! ### the draw's first def -/
def rd_begin : PTS := (dSeq (dSetO 1 (dComp [2] (iL (dVar 0)) (gNm 2) (dTst (dOp fGe (dB1 fAbs (dVar 2)) (dOp fPow (dC (.int 10)) (dC (.int 18))))) (dB1 fAbs (dVar 2)))) dRetDraw)
theorem comp_begin {w : List Nat} {ρ : Rho} {M : Mm} {q : List D → Mm → Prop} (hρ : ∃ x y z, ρ = [x, y, z]) : ∀ (ns : List Int) (acc : List Int), acc.length + ns.length ≤ 63 → (∀ l : List Int, l.length ≤ 63 → q (l.map .int) M) →
    compR (gNm 2) (dTst (dOp fGe (dB1 fAbs (dVar 2)) (dOp fPow (dC (.int 10)) (dC (.int 18))))) (dB1 fAbs (dVar 2)) ρ (ns.map .int) (acc.map .int) M q
  | [], acc, h, k => k acc (by simpa using h)
  | n :: ns, acc, h, k => by
    obtain ⟨x, y, z, rfl⟩ := hρ
    have hl : acc.length + ns.length + 1 ≤ 63 := by
      have e : acc.length + (ns.length + 1) ≤ 63 := h
      omega
    refine ⟨⟨by decide, by decide, by decide⟩, ?_⟩
    show if decide ((10 : Int) ^ (18 : Int).toNat ≤ if n < 0 then -n else n) = true then _ else _
    by_cases c : (10 : Int) ^ (18 : Int).toNat ≤ if n < 0 then -n else n
    · refine itT (decide_eq_true c) ⟨?_, ?_⟩
      · rw [List.length_map]; omega
      · have e := comp_begin (w := w) (ρ := [x, y, z]) (M := M) (q := q) ⟨x, y, z, rfl⟩ ns (acc ++ [if n < 0 then -n else n]) (by rw [List.length_append, List.length_singleton]; omega) k
        rw [List.map_append] at e
        exact e
    · exact itF (decide_eq_false c) (comp_begin (w := w) ⟨x, y, z, rfl⟩ ns acc (by omega) k)
def asScr (d : D) (f : List Int → Prop) : Prop := match d with | .scr ns => f ns | _ => False
theorem asScr_of {d : D} {f : List Int → Prop} (h : asScr d f) : ∃ ns, d = .scr ns ∧ f ns := by
  unfold asScr at h
  split at h
  · exact ⟨_, rfl, h⟩
  · exact h.elim
theorem sh_begin : Shows sp_begin 3 rd_begin := by
  intro ds M q e h
  obtain ⟨d, rfl, h⟩ := ar1_of h
  obtain ⟨ns, rfl, hn, hq⟩ : ∃ ns, d = .scr ns ∧ ns.length ≤ 63 ∧ ∀ a, M a = none → q (.raw (.ref a)) (updM M a .draw) := by
    cases d with
    | scr ns => exact ⟨ns, rfl, h⟩
    | _ => exact (show False from h).elim
  refine ⟨rfl, comp_begin (w := []) ⟨_, _, _, rfl⟩ ns [] (by simpa using hn) fun l hl => ?_⟩
  exact ⟨l, ns, rfl, rfl, hl, hn, fun a ha => ⟨_, MLe.refl _, hq a ha⟩⟩
/-! ### picking -/
def sp_pick : PSp := fun ds M q _ => ar2 ds fun d l => asL l fun l => asDraw d M ((0 < l.length ∧ l.length ≤ 100000) ∧ ∀ x ∈ l, q x M)
def rd_pick : PTS := (dRet (dOp fIx (dVar 1) (dCall sp_take [] (dCons (dVar 0) (dCons (dB1 fLen (dVar 1)) dNil)))))
theorem log_small {n : Int} (h0 : 0 ≤ n) (h : n ≤ 2 ^ 4000) : n.natAbs.log2 < 9000 := by
  have e : n.natAbs ≤ 2 ^ 4000 := by omega
  exact PySem.Flt.log2_lt_of (by decide) (Nat.lt_of_le_of_lt e (Nat.pow_lt_pow_right (by decide) (by decide)))
theorem sh_pick : Shows sp_pick 2 rd_pick := by
  intro ds M q e h
  obtain ⟨d, x, rfl, h⟩ := ar2_of h
  obtain ⟨l, rfl, h⟩ := asL_of h
  obtain ⟨a, rfl, hM, ⟨h0, h1⟩, hq⟩ := asDraw_of h
  refine ⟨hM, ⟨by omega, log_small (by omega) ?_⟩, fun k k0 k1 => ?_⟩
  · have : (100000 : Int) ≤ 2 ^ 4000 := by decide
    omega
  · obtain ⟨j, rfl⟩ : ∃ j : Nat, k = j := ⟨k.toNat, by omega⟩
    have hj : j < l.length := by omega
    exact ⟨l[j], atI_nat (List.getElem?_eq_getElem hj), M, MLe.refl M, hq _ (List.getElem_mem hj)⟩
end Px

set_option Elab.async false
set_option linter.all false
set_option maxRecDepth 100000
namespace Px
open PySem PySem.Spec PyProof.Rows L2

/-! ## what is never reached -/
def dNever : PTE := fun _ _ _ _ => False
def dNeverS : PTS := fun _ _ _ _ => False
section
variable {X : Cx} {W : WX} {e : Expr} {st1 : Stmt}
theorem de_never : DE X W e dNever := ⟨fun _ _ _ _ _ _ ⟨_, _, _, _, _, _, _, _, z, _⟩ => z.elim⟩
theorem ds_never : DS X W st1 dNeverS := ⟨fun _ _ _ _ _ _ ⟨_, _, _, _, _, _, _, _, z, _⟩ => z.elim⟩
end
/-! ## == of texts -/
def fEqS : F2
  | .str a, .str b, k => k (.bl (decide (a = b)))
  | _, _, _ => False
def fNeS : F2
  | .str a, .str b, k => k (.bl (!decide (a = b)))
  | _, _, _ => False
section
variable {X : Cx} {W : WX} {K : PySem.W.Frag} {a b : Expr} {pa pb : PTE} {pos : Pos}
theorem opf_eqS : OpF K rEq fEqS := by
  intro g σ H ρ M F O x y v u k Q A rx ry h c
  unfold fEqS at h
  split at h
  · rename_i a b
    rw [rx.str, ry.str]
    refine ⟨rfl, c (.bl (decide (a = b))) _ H F O A (Same.refl F) ?_ h⟩
    show Rp K F (.bl (decide (a = b))) (.bl (decide (V.str a = V.str b)))
    by_cases z : a = b
    · subst z; simp; rfl
    · rw [decide_eq_false z, decide_eq_false (fun y => z (V.str.inj y))]; rfl
  · exact h.elim
theorem opf_neS : OpF K rNe fNeS := by
  intro g σ H ρ M F O x y v u k Q A rx ry h c
  unfold fNeS at h
  split at h
  · rename_i a b
    rw [rx.str, ry.str]
    refine ⟨rfl, c (.bl (!decide (a = b))) _ H F O A (Same.refl F) ?_ h⟩
    show Rp K F (.bl (!decide (a = b))) (.bl (!decide (V.str a = V.str b)))
    by_cases z : a = b
    · subst z; simp; rfl
    · rw [decide_eq_false z, decide_eq_false (fun y => z (V.str.inj y))]; rfl
  · exact h.elim
theorem de_eqS (ha : DO X W a pa) (hb : DO X W b pb) : DE X W (.Compare a [.Eq] [b] pos) (dOp fEqS pa pb) := de_cmp op_eq opf_eqS ha hb (nomark _)
theorem de_neS (ha : DO X W a pa) (hb : DO X W b pb) : DE X W (.Compare a [.NotEq] [b] pos) (dOp fNeS pa pb) := de_cmp op_ne opf_neS ha hb (nomark _)
theorem dt_eqS (ha : DO X W a pa) (hb : DO X W b pb) : DT X W (.Compare a [.Eq] [b] pos) (dTst (dOp fEqS pa pb)) := dt_cmp op_eq opf_eqS ha hb (nomark _)
theorem dt_neS (ha : DO X W a pa) (hb : DO X W b pb) : DT X W (.Compare a [.NotEq] [b] pos) (dTst (dOp fNeS pa pb)) := dt_cmp op_ne opf_neS ha hb (nomark _)
end
/-! ## repr of data -/
def showOk (d : PyData) : Prop := d.showable = true ∧ d.shown.length ≤ 16777216
def rRepr (K : PySem.W.Frag) : List V → Hp → VK → Prop := fun xs H Q => ∃ x d, xs = [x] ∧ Dp K H x d ∧ showOk d ∧ d.depth + 1 ≤ 64 ∧ d.hasDict = false ∧ Q (.str d.shown) H
section
variable {X : Cx} {W : WX} {K : PySem.W.Frag} {a : Expr} {pa : PTE} {p pos : Pos}
theorem call_reprD (hG : X.A.guards = some []) (hu : X.A.units + 64 < cLine) : CallR X (.builtin "repr") (rRepr X.K) := by
  intro pins s σ H xs us Q I r h
  obtain ⟨x, d, rfl, hd, ⟨h1, h2⟩, h3, h4, q⟩ := h
  obtain ⟨u, rfl, ru⟩ := L2.Vals.one r
  obtain ⟨as, rd⟩ := Dp.reads I d x u hd ru
  have hz : d.shown.length ≤ sizeLine := h2
  have fin : ∀ (a : Addr), u = .ref a → wpAny (model X.prog X.w) X.A (call (.builtin "repr") [u]) (EP X pins σ Q) X.xe s := fun a eu => by
    subst eu
    exact repr_of_reads' rd h1 (PyData.noDict_hsm h4) hG (by omega) (fun _ _ e => e) (fun h' t tk hk => ⟨.str d.shown, H, I.kept (t' := tk) hk, ⟨t, rfl⟩, q⟩) hz
  cases hd with
  | non =>
    cases ru
    exact PySem.P.repr_of_none ⟨.str _, H, I.tok _, ⟨_, rfl⟩, q⟩
  | bl b =>
    cases ru
    refine PySem.P.repr_of_bool ⟨.str (PyData.shown (.bool b)), H, I.tok _, ⟨s.toks, ?_⟩, q⟩
    simp only [PyData.shown]
  | int i =>
    obtain ⟨t, rfl⟩ := ru
    exact PySem.P.repr_of_int (by simpa [PyData.showable] using h1) ⟨.str (PyData.shown (.int i)), H, I.tok _, ⟨s.toks, by simp only [PyData.shown]⟩, q⟩
  | str x =>
    obtain ⟨t, rfl⟩ := ru
    exact PySem.P.repr_of_str ⟨.str (PyData.shown (.str x)), H, I.tok _, ⟨s.toks, by simp only [PyData.shown]⟩, q⟩ (by simpa [PyData.shown] using hz)
  | lst h _ => exact fin _ ru
  | tup h _ => exact fin _ ru
def fRepr : F1 := fun x k => okD 50 x = true ∧ showOk (toPy x) ∧ k (.str (toPy x).shown)
theorem bf_repr : BF1 K (rRepr K) fRepr := by
  intro g σ H ρ M F O x v k Q A rx h c
  obtain ⟨h1, h2, hk⟩ := h
  have px := okP_of _ _ h1
  obtain ⟨y1, y2⟩ := py_ok 50 x px
  exact ⟨v, _, rfl, vw_dp A px rx, h2, by omega, PyData.hasDict_of_canLay _ y1, c (.str (toPy x).shown) _ H F O A (Same.refl F) rfl hk⟩
theorem de_repr (hG : X.A.guards = some []) (hu : X.A.units + 64 < cLine) (hg : Gl X "repr") (hm : X.mg "repr" = none) (ha : DO X W a pa) (he : starEach [a] X.env = (false, eval a X.env) :: starEach [] X.env := by rfl) (hpl : (backTo pos (starEach [] X.env)).any (·.1) = false := by rfl) :
    DE X W (.Call (.Name "repr" p) [a] [] pos) (dB1 fRepr pa) := de_b1 (call_reprD hG hu) bf_repr hg hm (by decide +kernel) ha (by decide) (by decide) he hpl
end
/-! ## own lists: append -/
def appR (ρ : Rho) (i : Nat) (d : D) (k : Rho → Prop) : Prop := match gt ρ i with | some (.own l) => l.length < 1000000 ∧ k (st ρ i (.own (l ++ [d]))) | _ => False
theorem appR_of {ρ : Rho} {i : Nat} {d : D} {k : Rho → Prop} (h : appR ρ i d k) : ∃ l, gt ρ i = some (.own l) ∧ l.length < 1000000 ∧ k (st ρ i (.own (l ++ [d]))) := by
  unfold appR at h
  split at h
  · exact ⟨_, by assumption, h⟩
  · exact h.elim
def isOwn (ρ : Rho) (i : Nat) : Prop := match gt ρ i with | some (.own _) => True | _ => False
theorem isOwn_of {ρ : Rho} {i : Nat} (h : isOwn ρ i) : ∃ l, gt ρ i = some (.own l) := by
  unfold isOwn at h
  split at h
  · exact ⟨_, by assumption⟩
  · exact h.elim
def dApp (i : Nat) (pe : PTE) : PTS := fun w P ρ M => isOwn ρ i ∧ pe w ρ M fun d M' => appR ρ i d fun ρ' => P.nx ρ' M'
section
variable {X : Cx} {W : WX} {e : Expr} {pe : PTE} {pos p1 p2 p3 : Pos}
theorem ds_app (i : Nat) {x : Str} (he : DE X W e pe) (hN : X.N[i]? = some x := by rfl) (hv : Vis X.env.scope x := by first | exact Or.inl rfl | exact Or.inr (Or.inl rfl) | exact Or.inr (Or.inr rfl)) (hd : (x == ("__debug__" : Str)) = false := by decide)
    (hcd : (x == ("__classdict__" : Str)) = false := by decide) (hs : starEach [e] X.env = (false, eval e X.env) :: starEach [] X.env := by rfl)
    (hbase : attributeBase (.Name x p1) "append" X.env (eval (.Name x p1) X.env) = eval (.Name x p1) X.env := by rfl)
    (hfew : ((backTo p3 (starEach [e] X.env)).all (fun x => !x.1) && (backToKw p3 (keywordEach [] X.env)).all (fun x => x.1.isSome)
      && decide ([e].length + ([] : List Keyword).length + (if ([] : List Keyword).isEmpty then 0 else 1) < 30)) = true := by rfl)
    (hline : (p2.endLine == p3.line) = true := by rfl) (hplain : (backTo p3 (starEach [] X.env)).any (·.1) = false := by rfl) :
    DS X W (.Expr (.Call (.Attribute (.Name x p1) "append" p2) [e] [] p3) pos) (dApp i pe) :=
  ps_imp (ps_expr (pe_bm PySem.F.plainAttrs_list PySem.F.slot_list_append PySem.F.type_list_append mt_append (pv i hN hv hd hcd) (pa_cons he pa_nil hs) hbase hfew hline hs hplain)) fun D σ H ⟨g, ρ, M, F, O, P, w, A, ⟨h0, h⟩, hw, k1, _⟩ => by
    obtain ⟨l0, e0⟩ := isOwn_of h0
    obtain ⟨v, hv', l, xs, rfl, hl, rl, hO⟩ := A.sl i _ e0
    refine ⟨.ref l, hv', .inl ⟨rfl, xs, .inl (.inl hl)⟩, g, ρ, M, F, O, _, w, A, h, hw, fun u H1 F1 O1 M1 d A1 s1 r1 q1 => ?_⟩
    obtain ⟨l1, e1, hz, q2⟩ := appR_of q1
    obtain ⟨v2, hv2, l2, ys, ev, hl2, rl2, hO2⟩ := A1.sl i _ e1
    rw [hv'] at hv2
    cases hv2
    cases ev
    refine ⟨l, ys, u, rfl, rfl, hl2, by rw [← rl2.len]; exact line_lt hz, ?_⟩
    exact k1 _ _ _ _ F1 O1 (A1.chg (xs := ys) e1 hv' hO2 (rl2.app (show RpL X.K F1 [d] [u] from ⟨u, [], rfl, r1, rfl⟩))) s1 q2
end
end Px

set_option Elab.async false
set_option linter.all false
set_option maxRecDepth 100000

namespace PySem
open Sem (wp)
/-! ## enumerate of a tuple, at the library's level -/
set_option maxHeartbeats 1000000 in
theorem px_meets_enum1 {v : Value} {o : Obj} {H : Heap → Prop} (B : Begins v o H) :
    Meets (Builtin.«enumerate.__new__» ⟨[.type "enumerate", v], []⟩) (fun _ R s => H s.heap ∧
      R (.ok (.ret (.ref (s.heap.push o).objs.size))) { s with heap := (s.heap.push o).push { cls := .type "enumerate", data := .fields #[.none, .bool false, .ref s.heap.objs.size, rawInt 0, .none, .none] } }) :=
  .of_wp fun prog w A R s h => by
    obtain ⟨hp, g, d, tk, os⟩ := s; obtain ⟨h1, h⟩ := h
    have hsub := sub_enumerate
    have q1 : ∀ {A' : Around} {E : Value → Shared → Prop} {Q : Value → Shared → Prop}, Q (.ref hp.objs.size) ⟨hp.push o, g, d, tk, os⟩ → wpAny (model prog w) A' (pyIter v) Q E ⟨hp, g, d, tk, os⟩ :=
      fun q => B.iter prog w _ _ ⟨hp, g, d, tk, os⟩ _ h1 q
    wp_walk using q1
    refine wpAny_stack_any fun st => wpAny_pure ?_
    split
    · rename_i c _ _ _ _ _
      cases (c == Value.type "enumerate")
      · wp_walk using q1
        exact ⟨_, rfl, h⟩
      · wp_walk using q1
        exact ⟨_, rfl, h⟩
    · wp_walk using q1
      exact ⟨_, rfl, h⟩
section
variable {prog : Program} {w : World} {A : Around} {E : Value → Shared → Prop} {s : Shared}
theorem px_enum1 {v : Value} {o : Obj} {H : Heap → Prop} {Q : Value → Shared → Prop} (B : Begins v o H) (h1 : H s.heap)
    (h : ∀ h', IsEnum h' (s.heap.objs.size + 1) s.heap.objs.size 0 .none → h'.get? s.heap.objs.size = some o → h'.objs.size = s.heap.objs.size + 2 →
      (∀ b o, s.heap.get? b = some o → h'.get? b = some o) → Q (.ref (s.heap.objs.size + 1)) { s with heap := h' }) :
    wpAny (model prog w) A (call (.type "enumerate") [v]) Q E s := by
  refine callType_new F.called_enumerate (by decide) (F.typeCall_enumerate_1 _) (F.newCall_enumerate_1 _) (fun obj => F.args_object_init_2 obj _) F.entry_enumerate_new
    (px_meets_enum1 B) ⟨h1, ?_⟩
  have hz : (s.heap.push o).objs.size = s.heap.objs.size + 1 := Heap.size_push ..
  show _ ∧ _
  rw [hz]
  have he : IsEnum ((s.heap.push o).push { cls := .type "enumerate", data := .fields #[.none, .bool false, .ref s.heap.objs.size, rawInt 0, .none, .none] }) (s.heap.objs.size + 1) s.heap.objs.size 0 .none := by
    have := Heap.get?_push_size (s.heap.push o) (o := { cls := .type "enumerate", data := .fields #[.none, .bool false, .ref s.heap.objs.size, rawInt 0, .none, .none] }) rfl
    rw [hz] at this; exact this
  refine ⟨⟨_, he, rfl⟩, h _ he (Heap.get?_push_of_some _ (Heap.get?_push_size _ B.free)) (by rw [Heap.size_push, hz]) fun b o x => Heap.get?_push_of_some _ (Heap.get?_push_of_some _ x)⟩
theorem px_enum_endT {e it t : Addr} {i : Nat} {k : Int} {items : Array Value} {old : Value} {Q : Option Value → Shared → Prop} (hh : A.handled = none)
    (he : IsEnum s.heap e it k old) (hit : s.heap.IsTupleIter it t i) (ht : s.heap.IsTuple t items) (hx : items[i]? = none)
    (hQ : ∀ h', Heap.ExtBut it s.heap h' → Q none { s with heap := h' }) : wpAny (model prog w) A (pyNext (.ref e)) Q E s := by
  have hT : s.TypeIs (.ref e) "enumerate" := ⟨_, he, rfl⟩
  unfold pyNext
  refine wpAny_bind (wpAny_attempt (wpAny_callSpecial?_slot (name := Str.ofString "__next__") hT F.slot_enumerate_next
    (wpAny_call_entry F.slot_enumerate_next hT F.entry_enumerate_next ?_ (F.args_enumerate_next_1 _))))
  show wpAny _ _ (field (.ref e) 2 >>= _) _ _ _
  refine wpAny_bind (wpAny_field he rfl (x := .ref it) rfl ?_)
  refine wpAny_bind (wpAny_nextOf_tuple_end (A := A.in1) (show A.in1.handled = none from hh) hit ht hx fun h' x he' hx' => ?_)
  obtain ⟨o, ho, hc⟩ := hx'
  refine wpAny_bind (wpAny_isInstance (T := "StopIteration") (b := true) ⟨o, ho, hc⟩ isSubtype_stop ?_)
  exact wpAny_pure (hQ _ he')
end
end PySem
namespace Px
open PySem PySem.Spec PyProof.Rows L2
/-! ## walkers over a list or a tuple -/
/-- the tuple at a, each item in a new pair -/
def Iteu (K : PySem.W.Frag) (a : Addr) : It :=
  ⟨fun i H => ∃ (xs : List V) (x : V), SqT K H a xs ∧ xs[i]? = some x, fun i H v H' => ∃ T x, v = .ref T ∧ H T = none ∧ H' = upd H T (.tup [.int (i : Nat), x]) ∧ ∀ xs, SqT K H a xs → xs[i]? = some x, fun i H => ∃ xs : List V, SqT K H a xs ∧ xs.length ≤ i⟩
theorem turn_enumT {P : Program} {w : World} {K : PySem.W.Frag} {elts : List Expr} {kk : Nat} {tpos : Pos} (a e it : Addr) (hna : a ≠ it) :
    Turn P w K (.Tuple elts kk tpos) (Iteu K a) [e, it] e (fun i h => (∃ old, IsEnum h e it ((i : Nat) : Int) old) ∧ h.IsTupleIter it a i ∧ e ≠ it ∧ e ≠ a) where
  mem := by simp
  obj := fun i h st b hb => by
    obtain ⟨⟨old, he⟩, ⟨o, ho, hc, hd⟩, _⟩ := st
    have e' : b = e ∨ b = it := by simpa using hb
    rcases e' with z | z
    · rw [z]; exact ⟨_, he, fun v q => nomatch q⟩
    · rw [z]; exact ⟨o, ho, fun v q => by rw [hd] at q; cases q⟩
  keep := fun i h h' st k => let ⟨⟨old, he⟩, hi, hne⟩ := st; ⟨⟨old, k e (by simp) _ he⟩, hi.at fun o q => k it (by simp) o q, hne⟩
  item := by
    intro X hP hw hK hc i pins s σ H E I hf st hg
    subst hP hw hK
    obtain ⟨⟨old, he⟩, hit, hne, hea⟩ := st
    obtain ⟨xs, x, hq, hx⟩ := hg
    obtain ⟨its, rv, p, hz⟩ := I.tuple hq
    obtain ⟨u, hu, ru⟩ := rv.get hx
    have hel : e < s.heap.objs.size := Heap.lt_size he
    have hil : it < s.heap.objs.size := by obtain ⟨_, q, _⟩ := hit; exact Heap.lt_size q
    have pt : s.heap.IsTuple a its.toArray := p
    have hlt : i < its.toArray.size := by
      have := (List.getElem?_eq_some_iff.mp hu).1
      simpa using this
    refine wpAny_pyNext_enum_itemD (Draws.tuple (A := X.A.in1) (show X.A.in1.handled = none from I.ok.hd hc) it a hna its.toArray) he ⟨hit, pt⟩ hlt hne (by simp [hne, hea]) fun y h' tk hy ho hst hT hsz hk => ?_
    have hy' : y = u := by
      have q : its.toArray[i]? = some y := hy
      have q2 : its.toArray[i]? = some u := by simpa using hu
      rw [q2] at q; cases q; rfl
    subst hy'
    refine ⟨_, rfl, wpAny_letOwnedTupleGo_enum (s := { s with heap := h', toks := tk + 1 }) ho fun h'' he' sb => ?_⟩
    have hT2 : h''.get? s.heap.objs.size = some { cls := .type "tuple", data := .seq #[.int i tk, y] } := (sb.2 _ (Nat.ne_of_gt hel)).trans hT
    have new : ObjOk X.prog X.w (upd H s.heap.objs.size (.tup [.int (i : Nat), x])) h'' s.heap.objs.size (.tup [.int (i : Nat), x]) :=
      ⟨by show 2 ≤ sizeLine; decide, [.int i tk, y], .cons ⟨_, rfl⟩ (.cons ru .nil), ⟨_, hT2, rfl, _, rfl⟩⟩
    have I1 : Inv X pins σ (upd H s.heap.objs.size (.tup [.int (i : Nat), x])) { s with heap := h'', toks := tk + 1 } :=
      I.turnedNew (ch := [e, it]) (fun b ob hb q => (sb.2 b (fun z => hb (by simp [z]))).trans (hk b ob (fun z => hb (by simp [z])) (fun z => hb (by simp [z])) q)) hf (Nat.le_refl _) new
    refine ⟨.ref s.heap.objs.size, _, I1, rfl, ⟨_, x, rfl, I.hok.fresh (Nat.le_refl _), rfl, fun ys hy => by rw [I.tuple_inj hy hq]; exact hx⟩, ⟨⟨y, ?_⟩, hst.1.at fun o q => (sb.2 it (Ne.symm hne)).trans q, hne, hea⟩, fun b hb => ?_⟩
    · have e1 : ((i + 1 : Nat) : Int) = (i : Int) + 1 := by omega
      rw [e1]; exact he'
    · have hb' : b < s.heap.objs.size := by
        have e' : b = e ∨ b = it := by simpa using hb
        rcases e' with z | z
        · rw [z]; exact hel
        · rw [z]; exact hil
      rw [upd_ne (Nat.ne_of_lt hb')]
      exact (hf b hb).1
  done := by
    intro X hP hw hK hc i pins s σ H E I hf st hg
    subst hP hw hK
    obtain ⟨⟨old, he⟩, hit, hne, hea⟩ := st
    obtain ⟨xs, hq, hx⟩ := hg
    obtain ⟨its, rv, p, hz⟩ := I.tuple hq
    obtain ⟨f0, f1, f2, f3, f4, f5⟩ := hf it (by simp)
    have hl := rv.length
    have pt : s.heap.IsTuple a its.toArray := p
    exact px_enum_endT (I.ok.hd hc) he hit pt (by simp; omega) fun h' eb => ⟨rfl, I.turned (t' := s.toks) (fun b o hb q => eb b o hb q) f0 f1 f3 f4 f5⟩
  self := fun A i s Q E st h => let ⟨⟨_, he⟩, _⟩ := st; wpAny_pyIter_enum he h

section
variable {X : Cx} {W : WX} {tg e a b : Expr} {pe pa pb : PTE} {pl : PTA} {pos p tpos : Pos} {elts : List Expr} {kk : Nat}
/-- over a list or a tuple -/
def iAny (K : PySem.W.Frag) (tl : TE) : TI := fun σ H R => tl σ H fun x H1 => ∃ a, x = .ref a ∧ (((∃ xs, SqL K H1 a xs) ∧ R (Itl K a) H1) ∨ ((∃ xs, SqT K H1 a xs) ∧ R (Itt K a) H1))
theorem pi_any {tl : TE} (hl : PE X e tl) : PI X tg e (iAny X.K tl) := by
  refine ⟨fun pins s σ H R I h => ?_⟩
  refine thn (hl.run pins s σ H _ I h) fun v s1 ⟨x, H1, I1, r1, q1⟩ => ?_
  obtain ⟨a, e, (⟨⟨xs, hq⟩, q⟩ | ⟨⟨xs, hq⟩, q⟩)⟩ := q1
  · subst e
    cases r1
    obtain ⟨its, rv, p, hz⟩ := I1.list hq
    refine wpAny_pyIter_list p.isList ?_
    refine ⟨s1.heap.objs.size, [s1.heap.objs.size], _, _, H1, rfl, I1.kept (t' := s1.toks) fun b o e => Heap.get?_push_of_some _ e, turn_list a _, ⟨_, Heap.get?_push_size _ rfl, rfl, rfl⟩, fun b hb => ?_, q⟩
    have e : b = s1.heap.objs.size := by simpa using hb
    subst e
    exact I1.fpOk (Nat.le_refl _) (I1.hok.fresh (Nat.le_refl _))
  · subst e
    cases r1
    obtain ⟨its, rv, p, hz⟩ := I1.tuple hq
    refine wpAny_pyIter_tuple (show s1.heap.IsTuple a its.toArray from p) ?_
    refine ⟨s1.heap.objs.size, [s1.heap.objs.size], _, _, H1, rfl, I1.kept (t' := s1.toks) fun b o e => Heap.get?_push_of_some _ e, turn_tuple a _, ⟨_, Heap.get?_push_size _ rfl, rfl, rfl⟩, fun b hb => ?_, q⟩
    have e : b = s1.heap.objs.size := by simpa using hb
    subst e
    exact I1.fpOk (Nat.le_refl _) (I1.hok.fresh (Nat.le_refl _))
def iEnumA (K : PySem.W.Frag) (ta : TA) : TI := fun σ H R => ta σ H fun vs H1 => ∃ a xs, vs = [.ref a] ∧ ((SqL K H1 a xs ∧ R (Ite K a) H1) ∨ (SqT K H1 a xs ∧ R (Iteu K a) H1))
theorem pi_enumA {ta : TA} (hg : Gl X "enumerate") (hm : X.mg "enumerate" = none) (ha : PA X [e] ta) (hs : starEach [e] X.env = [(false, eval e X.env)] := by rfl) :
    PI X (.Tuple elts kk tpos) (.Call (.Name "enumerate" p) [e] [] pos) (iEnumA X.K ta) := by
  refine ⟨fun pins s σ H R I h => ?_⟩
  refine Call_ (ld_blt I hg hm boot_enumerate (PyProof.Rows.callWith_type1 (thn (ha.run pos pins s σ H _ I h) fun us s1 ⟨vs, H1, I1, r1, q1⟩ => ?_) hs rfl))
  obtain ⟨a, xs, ex, q1⟩ := q1
  subst ex
  cases r1 with
  | cons r rr =>
    cases rr
    cases r
    rcases q1 with ⟨hq, q⟩ | ⟨hq, q⟩
    · obtain ⟨its, rv, p', hz⟩ := I1.list hq
      refine call_enumerate_list p'.isList fun h' he hit hsz hk => wpAny_pyIter_enum he ?_
      have I2 : Inv X pins σ H1 { s1 with heap := h' } := I1.kept (t' := s1.toks) hk
      refine ⟨s1.heap.objs.size + 1, [s1.heap.objs.size + 1, s1.heap.objs.size], _, _, H1, rfl, I2, turn_enum a (s1.heap.objs.size + 1) s1.heap.objs.size, ⟨⟨.none, he⟩, hit, Nat.succ_ne_self _⟩, fun b hb => ?_, q⟩
      have e' : b = s1.heap.objs.size + 1 ∨ b = s1.heap.objs.size := by simpa using hb
      have hle : s1.heap.objs.size ≤ b := by
        rcases e' with z | z
        · rw [z]; exact Nat.le_add_right _ _
        · rw [z]; exact Nat.le_refl _
      exact I1.fpOk hle (I1.hok.fresh hle)
    · obtain ⟨its, rv, p', hz⟩ := I1.tuple hq
      have pt : s1.heap.IsTuple a its.toArray := p'
      have hal : a < s1.heap.objs.size := by obtain ⟨o, q, _⟩ := pt; exact Heap.lt_size q
      refine px_enum1 (begins_tuple a its.toArray) pt fun h' he hit hsz hk => wpAny_pyIter_enum he ?_
      have I2 : Inv X pins σ H1 { s1 with heap := h' } := I1.kept (t' := s1.toks) hk
      refine ⟨s1.heap.objs.size + 1, [s1.heap.objs.size + 1, s1.heap.objs.size], _, _, H1, rfl, I2, turn_enumT a (s1.heap.objs.size + 1) s1.heap.objs.size (Nat.ne_of_lt hal), ⟨⟨.none, he⟩, ⟨_, hit, rfl, rfl⟩, Nat.succ_ne_self _, Nat.ne_of_gt (Nat.lt_succ_of_lt hal)⟩, fun b hb => ?_, q⟩
      have e' : b = s1.heap.objs.size + 1 ∨ b = s1.heap.objs.size := by simpa using hb
      have hle : s1.heap.objs.size ≤ b := by
        rcases e' with z | z
        · rw [z]; exact Nat.le_add_right _ _
        · rw [z]; exact Nat.le_refl _
      exact I1.fpOk hle (I1.hok.fresh hle)
def iA (pe : PTE) : PTA := fun w ρ M q => pe w ρ M fun d M' => match d with | .lst l => q l M' | .tup l => q l M' | .scr ns => q (ns.map .int) M' | _ => False
theorem di_any (h : DE X W e pe) : DI X W tg e (iA pe) := pi_imp (pi_any h) fun σ H R ⟨g, ρ, M, F, O, q, w, A, pr, hw, k⟩ =>
  ⟨g, ρ, M, F, O, _, w, A, pr, hw, fun v H' F' O' M' d A' s r q => by
    cases d with
    | lst l =>
      obtain ⟨a, xs, e, hs, rl⟩ := r
      exact ⟨a, e, .inl ⟨⟨xs, .inl (.inl (A'.sub _ _ hs))⟩, k _ H' F' O' M' l A' s (wk_list (.inl (.inl hs)) rl) q⟩⟩
    | tup l =>
      obtain ⟨a, xs, e, hs, rl⟩ := r
      exact ⟨a, e, .inr ⟨⟨xs, same_t A'.sub hs⟩, k _ H' F' O' M' l A' s (wk_tup hs rl) q⟩⟩
    | scr ns =>
      obtain ⟨a, e, hs⟩ := r
      exact ⟨a, e, .inl ⟨⟨_, same_l A'.sub hs⟩, k _ H' F' O' M' _ A' s (wk_list hs (RpL.of_ints ns)) q⟩⟩
    | _ => exact (show False from q).elim⟩
theorem wk_enumT {K : PySem.W.Frag} {F : Hp} {a : Addr} {xs : List V} {ds : List D} (h : SqT K F a xs) (r : RpL K F ds xs) : Wk K (Iteu K a) F (enumD 0 ds) where
  go := fun g σ ρ M F' O H i A s hi => by
    rw [enumD_len] at hi
    exact ⟨xs, xs[i]'(by rw [← r.len]; exact hi), same_t (s.trans A.sub) h, List.getElem?_eq_getElem _⟩
  yl := fun g σ ρ M F' O H i x H' d A s ⟨T, y, ex, hT, eH, hx⟩ hd => by
    rw [enumD_get] at hd
    cases q : ds[i]? with
    | none => rw [q] at hd; cases hd
    | some d0 =>
      rw [q] at hd
      cases hd
      obtain ⟨z, h1, h2⟩ := r.get q
      have e2 := hx xs (same_t (s.trans A.sub) h)
      rw [h1] at e2
      have e3 : z = y := Option.some.inj e2
      subst e3 eH ex
      have sn := same_new (o := .tup [.int (i : Nat), z]) (A.f0 hT)
      exact ⟨_, A.lay hT, sn, T, _, rfl, .inl (.inl upd_same), .int (i : Nat), _, rfl, by rw [Nat.zero_add]; rfl, z, _, rfl, Rp.mono (s.trans sn) _ _ h2, rfl⟩
  sp := fun g σ ρ M F' O H A s => ⟨xs, same_t (s.trans A.sub) h, by rw [enumD_len, r.len]; exact Nat.le_refl _⟩
def iEA (pe : PTE) : PTA := fun w ρ M q => pe w ρ M fun d M' => match d with | .lst l => q (enumD 0 l) M' | .tup l => q (enumD 0 l) M' | _ => False
theorem di_enumA (hg : Gl X "enumerate") (hm : X.mg "enumerate" = none) (ha : DE X W a pa) (he : starEach [a] X.env = (false, eval a X.env) :: starEach [] X.env := by rfl) (hs : starEach [a] X.env = [(false, eval a X.env)] := by rfl) :
    DI X W (.Tuple elts kk tpos) (.Call (.Name "enumerate" p) [a] [] pos) (iEA pa) := pi_imp (pi_enumA hg hm (pa_cons ha pa_nil he) hs) fun σ H R ⟨g, ρ, M, F, O, q, w, A, pr, hw, k⟩ =>
  ⟨g, ρ, M, F, O, _, w, A, pr, hw, fun v H' F' O' M' d A' s r q => by
    cases d with
    | lst l =>
      obtain ⟨a, xs, e, hs, rl⟩ := r
      exact ⟨a, xs, by rw [e], .inl ⟨.inl (.inl (A'.sub _ _ hs)), k _ H' F' O' M' _ A' s (wk_enum (.inl (.inl hs)) rl) q⟩⟩
    | tup l =>
      obtain ⟨a, xs, e, hs, rl⟩ := r
      exact ⟨a, xs, by rw [e], .inr ⟨same_t A'.sub hs, k _ H' F' O' M' _ A' s (wk_enumT hs rl) q⟩⟩
    | _ => exact (show False from q).elim⟩
/-! ## isinstance(x, (T, U)) -/
def fIsi2 (t u : String) : F1 := fun d k => match tyD d with | some a => k (.bl (subTy a t || subTy a u)) | none => False
end
end Px

set_option Elab.async false
set_option linter.all false
set_option maxRecDepth 100000
namespace Px
open PySem PySem.Spec PyProof.Rows L2
section
variable {X : Cx} {W : WX} {tg e a b : Expr} {pe pa pb : PTE} {pl : PTA} {pos p tpos : Pos}
/-! ## isinstance(x, (T, U)) -/
theorem de_isi2 (T U : String) (hT : T ∈ tys) (hU : U ∈ tys) {x2 x3 : Str} {p2 p3 pt : Pos} {kt} (hg : Gl X "isinstance") (hm : X.mg "isinstance" = none) (hg2 : Gl X x2) (hm2 : X.mg x2 = none) (hv2 : bootBuiltins x2 = some (.type T))
    (hg3 : Gl X x3) (hm3 : X.mg x3 = none) (hv3 : bootBuiltins x3 = some (.type U)) (ha : DO X W a pa)
    (hn2 : x2 ≠ "__name__" := by decide) (hd2 : (x2 == ("__debug__" : Str)) = false := by decide) (hn3 : x3 ≠ "__name__" := by decide) (hd3 : (x3 == ("__debug__" : Str)) = false := by decide)
    (he : starEach [a, .Tuple [.Name x2 p2, .Name x3 p3] kt pt] X.env = (false, eval a X.env) :: starEach [.Tuple [.Name x2 p2, .Name x3 p3] kt pt] X.env := by rfl)
    (he2 : starEach [.Tuple [.Name x2 p2, .Name x3 p3] kt pt] X.env = (false, eval (.Tuple [.Name x2 p2, .Name x3 p3] kt pt) X.env) :: starEach [] X.env := by rfl)
    (he3 : starEach [.Name x2 p2, .Name x3 p3] X.env = (false, eval (.Name x2 p2) X.env) :: starEach [.Name x3 p3] X.env := by rfl) (he4 : starEach [.Name x3 p3] X.env = (false, eval (.Name x3 p3) X.env) :: starEach [] X.env := by rfl)
    (hpl : (backTo pos (starEach [.Tuple [.Name x2 p2, .Name x3 p3] kt pt] X.env)).any (·.1) = false := by rfl) : DE X W (.Call (.Name "isinstance" p) [a, .Tuple [.Name x2 p2, .Name x3 p3] kt pt] [] pos) (dB1 (fIsi2 T U) pa) :=
  pe_imp (pe_callB call_isiT hg hm (by decide +kernel) (pa_cons ha (pa_cons (pe_tup (pa_cons (pe_bltn (v := .ty T) hg2 hm2 hv2 rfl hn2 hd2) (pa_cons (pe_bltn (v := .ty U) hg3 hm3 hv3 rfl hn3 hd3) pa_nil he4) he3)) pa_nil he2) he) (by decide) (by decide) he hpl) fun σ H Q ⟨g, ρ, M, F, O, q, w, A, p, hw, k⟩ =>
  ⟨g, ρ, M, F, O, _, w, A, p, hw, fun v H1 F1 O1 M1 d A1 s1 r1 q1 => ⟨by show 2 ≤ sizeLine; decide, fun tp hp => by
    cases e : tyD d with
    | none => simp only [fIsi2, e] at q1
    | some t =>
      simp only [fIsi2, e] at q1
      have A2 := A1.laid (o := .tup [.ty T, .ty U]) hp
      refine ⟨v, tp, [.ty T, .ty U], _, [.type T, .type U], subTy t T || subTy t U, rfl, upd_same, .cons (.ty T) (.cons (.ty U) .nil), vw_ty A2 r1 e, ?_, k (.bl (subTy t T || subTy t U)) _ F1 O1 M1 (.bl (subTy t T || subTy t U)) A2 s1 rfl q1⟩
      refine kitAny_cons (kit_ty (kit_tys t (tyD_mem e) T hT)) (fun h1 => ?_) (fun h1 => by rw [h1]; rfl)
      rw [h1, Bool.false_or]
      exact kitAny_cons (kit_ty (kit_tys t (tyD_mem e) U hU)) (fun h2 => by rw [h2]; exact kitAny_nil) (fun h2 => h2)⟩⟩
/-! ## calls with keywords -/
/-- the values in the parameters' order -/
def pick {α : Type} (ix : List Nat) (l : List α) : List α := ix.filterMap fun i => l[i]?
abbrev DK (X : Cx) (W : WX) (ks : List Keyword) (p : PTA) : Prop := PK X ks (realA X.K W p)
theorem dk_nil : DK X W [] dNil := ⟨fun pos pins s σ H Q I ⟨g, ρ, M, F, O, q, w, A, p, hw, k⟩ => pk_nil.run pos pins s σ H Q I (k [] H F O M [] A (Same.refl F) rfl p)⟩
theorem dk_cons {nm : Option Str} {kpos : Pos} {kws : List Keyword} (ha : DE X W e pe) (hr : DK X W kws pl) : DK X W (⟨nm, e, kpos⟩ :: kws) (dCons pe pl) :=
  ⟨fun pos pins s σ H Q I ⟨g, ρ, M, F, O, q, w, A, p, hw, k⟩ => (pk_cons (nm := nm) (kpos := kpos) ha hr).run pos pins s σ H Q I
    ⟨g, ρ, M, F, O, _, w, A, p, hw, fun v H1 F1 O1 M1 d A1 s1 r1 q1 => ⟨g, ρ, M1, F1, O1, _, w, A1, q1, hw.mono s1, fun vs H2 F2 O2 M2 ds A2 s2 r2 q2 => k (v :: vs) H2 F2 O2 M2 (d :: ds) A2 (s1.trans s2) ⟨v, vs, rfl, Rp.mono s2 d v r1, r2⟩ q2⟩⟩⟩
theorem vals_get : ∀ {vs : List V} {us : List Value} (i : Nat), Vals vs us → (∃ v u, vs[i]? = some v ∧ us[i]? = some u ∧ RelV v u) ∨ (vs[i]? = none ∧ us[i]? = none)
  | _, _, _, .nil => .inr ⟨rfl, rfl⟩
  | _, _, 0, .cons r t => .inl ⟨_, _, rfl, rfl, r⟩
  | _, _, i + 1, .cons r t => vals_get i t
theorem vals_pick {vs : List V} {us : List Value} (h : Vals vs us) : ∀ ix : List Nat, Vals (pick ix vs) (pick ix us)
  | [] => .nil
  | i :: r => by
    rcases vals_get i h with ⟨v, u, h1, h2, h3⟩ | ⟨h1, h2⟩
    · unfold pick
      rw [List.filterMap_cons_some h1, List.filterMap_cons_some h2]
      exact .cons h3 (vals_pick h r)
    · unfold pick
      rw [List.filterMap_cons_none h1, List.filterMap_cons_none h2]
      exact vals_pick h r
theorem rpl_get {K : PySem.W.Frag} {F : Hp} : ∀ {ds : List D} {vs : List V} (i : Nat), RpL K F ds vs → (∃ d v, ds[i]? = some d ∧ vs[i]? = some v ∧ Rp K F d v) ∨ (ds[i]? = none ∧ vs[i]? = none)
  | [], vs, i, h => by
    have e : vs = [] := h
    subst e
    exact .inr ⟨rfl, rfl⟩
  | d :: ds, vs, 0, h => by
    obtain ⟨v, r, rfl, h1, h2⟩ := h
    exact .inl ⟨d, v, rfl, rfl, h1⟩
  | d :: ds, vs, i + 1, h => by
    obtain ⟨v, r, rfl, h1, h2⟩ := h
    exact rpl_get i h2
theorem rpl_pick {K : PySem.W.Frag} {F : Hp} {ds : List D} {vs : List V} (h : RpL K F ds vs) : ∀ ix : List Nat, RpL K F (pick ix ds) (pick ix vs)
  | [] => rfl
  | i :: r => by
    rcases rpl_get i h with ⟨v, u, h1, h2, h3⟩ | ⟨h1, h2⟩
    · unfold pick
      rw [List.filterMap_cons_some h1, List.filterMap_cons_some h2]
      exact ⟨u, _, rfl, h3, rpl_pick h r⟩
    · unfold pick
      rw [List.filterMap_cons_none h1, List.filterMap_cons_none h2]
      exact rpl_pick h r
def dCallK (sp : PSp) (ix : List Nat) (pl : PTA) : PTE := fun w ρ M q => pl w ρ M fun ds M1 => sp (pick ix ds) M1 q fun cls fs M2 => w cls fs ρ M2
/-- how keywords bind -/
def KwB (K : PySem.W.Frag) (fd : FuncData) (ps ks : List Str) (ix : List Nat) : Prop := ∀ (s : Shared) (ws : List Value), K.In s.heap → (pick ix ws).length = ps.length → BindsTo s fd ⟨[], ks.zip ws⟩ (ps.zip (pick ix ws))
section
variable {k n : Nat} {f : Addr} {fd : FuncData} {ps ks : List Str} {sp : PSp} {x : Str} {kws : List Keyword} {ix : List Nat}
theorem de_callK (Fg : FnG X.prog X.w X.K X.mg X.base k f fd ps (toSp X.K n sp)) (hn : ps.length = n) (hlen : ∀ ds M q e, sp ds M q e → ds.length = n) (hr : Room k X.A) (hG : X.A.guards = some []) (hg : Gl X x) (hm : X.mg x = some (.ref f))
    (hk : PySem.W.keepIn X.K (.ref f) = true) (hb : KwB X.K fd ps ks ix) (tk : Takes X W) (ha : DK X W kws pl)
    (hall : (backToKw pos (keywordEach kws X.env)).all (·.1.isSome) = true := by rfl) (hks : (backToKw pos (keywordEach kws X.env)).filterMap (·.1) = ks := by rfl) (hdb : (x == ("__debug__" : Str)) = false := by decide)
    (hpl : ((backTo pos (starEach [] X.env)).any (·.1) || (backToKw pos (keywordEach kws X.env)).any (·.1.isNone)) = false := by rfl) : DE X W (.Call (.Name x p) [] kws pos) (dCallK sp ix pl) := by
  refine ⟨fun pins s σ H Q I ⟨g, ρ, M, F, O, q, w, A, pr, hw, kk⟩ => ?_⟩
  refine wpAny_Call_Name_kw (ld_glob I hg hm ?_ hdb)
  refine PySem.W.callWith_KW0 (h₀ := X.base) I.ok.mod.kin hk hall (thn (ha.run pos pins s σ H (fun vs H1 => toSp X.K n sp (pick ix vs) H1 Q fun cls d H' => W cls d σ H') I ?_) fun us s1 hh => ?_) hpl
  · refine ⟨g, ρ, M, F, O, _, w, A, pr, hw, fun vs H1 F1 O1 M1 d1 A1 s1 r1 q1 => ?_⟩
    have e := call_reading (dd := []) (dvs := []) hn (fun _ => rfl) A1 (hw.mono s1) (rpl_pick r1 ix) (by rw [List.append_nil]; exact hlen _ _ _ _ q1) (by rw [List.append_nil]; exact q1) fun v H2 F2 O2 M2 d2 A2 s2 r2 q2 => kk v H2 F2 O2 M2 d2 A2 (s1.trans s2) r2 q2
    rw [List.append_nil] at e
    exact e
  · obtain ⟨vs, H1, I1, r, q1⟩ := hh
    refine ⟨I1.kIn, ?_⟩
    rw [hks]
    have r2 := vals_pick r ix
    have hl : (pick ix us).length = ps.length := by rw [← r2.length]; exact Fg.len _ _ _ _ q1
    refine wpAny_call (codeAny_mono (Fg.run X.A X.stack s1 H1 ⟨[], ks.zip us⟩ (pick ix us) (pick ix vs) Q _ hr hG I1.env0 (hb s1 us I1.kIn hl) r2 q1) fun r s' hq => ?_)
    cases r with
    | error e => exact tk e s' (XE.of_call I1 (fun _ _ _ h => h) hq)
    | ok fl =>
      cases fl with
      | ret u => exact I1.after hq
      | next => exact hq.elim
      | brk => exact hq.elim
      | cont => exact hq.elim
end
/-! ## slices -/
abbrev PTO := PWi → Rho → Mm → (Option Int → Mm → Prop) → Prop
def dNo : PTO := fun _ _ M q => q none M
def asIn (d : D) (k : Int → Prop) : Prop := match d with | .int i => k i | _ => False
def dPt (pe : PTE) : PTO := fun w ρ M q => pe w ρ M fun d M1 => asIn d fun i => q (some i) M1
def realP (K : PySem.W.Frag) (W : WX) (p : PTO) : L2.TO := fun σ H Q => ∃ g ρ M F O q w, Ab K g σ H ρ M F O ∧ p w ρ M q ∧ WOk K g F W w ∧ ∀ o H' F' O' M', Ab K g σ H' ρ M' F' O' → Same F F' → q o M' → Q o H'
abbrev DP (X : Cx) (W : WX) (e : Option Expr) (p : PTO) : Prop := PO X e (realP X.K W p)
theorem dp_no : DP X W none dNo := ⟨fun pins s σ H Q I ⟨g, ρ, M, F, O, q, w, A, p, hw, k⟩ => po_none.run pins s σ H Q I (k none H F O M A (Same.refl F) p)⟩
theorem dp_pt (h : DE X W e pe) : DP X W (some e) (dPt pe) := ⟨fun pins s σ H Q I ⟨g, ρ, M, F, O, q, w, A, p, hw, k⟩ => (po_some h).run pins s σ H Q I
  ⟨g, ρ, M, F, O, _, w, A, p, hw, fun v H1 F1 O1 M1 d A1 s1 r1 q1 => by
    cases d with
    | int i => exact ⟨i, r1, k (some i) H1 F1 O1 M1 A1 s1 q1⟩
    | _ => exact (show False from q1).elim⟩⟩
def cutD (l : List D) (lo hi : Option Int) : List D := (l.drop (HT.sIx l.length 0 lo)).take (HT.sIx l.length l.length hi - HT.sIx l.length 0 lo)
theorem rpl_drop {K : PySem.W.Frag} {F : Hp} : ∀ {ds : List D} {vs : List V} (i : Nat), RpL K F ds vs → RpL K F (ds.drop i) (vs.drop i)
  | [], vs, i, h => by
    have e : vs = [] := h
    subst e
    simp only [List.drop_nil]; rfl
  | d :: ds, vs, 0, h => h
  | d :: ds, vs, i + 1, h => by
    obtain ⟨v, r, rfl, h1, h2⟩ := h
    exact rpl_drop i h2
theorem rpl_take {K : PySem.W.Frag} {F : Hp} : ∀ {ds : List D} {vs : List V} (i : Nat), RpL K F ds vs → RpL K F (ds.take i) (vs.take i)
  | [], vs, i, h => by
    have e : vs = [] := h
    subst e
    simp only [List.take_nil]; rfl
  | d :: ds, vs, 0, h => rfl
  | d :: ds, vs, i + 1, h => by
    obtain ⟨v, r, rfl, h1, h2⟩ := h
    exact ⟨v, r.take i, rfl, h1, rpl_take i h2⟩
theorem rpl_cut {K : PySem.W.Frag} {F : Hp} {ds : List D} {vs : List V} (lo hi : Option Int) (h : RpL K F ds vs) : RpL K F (cutD ds lo hi) (cutV vs lo hi) := by
  unfold cutD cutV
  rw [h.len]
  exact rpl_take _ (rpl_drop _ h)
def slR (d : D) (lo hi : Option Int) (k : D → Prop) : Prop := match d with
  | .lst l => k (.lst (cutD l lo hi))
  | .tup l => k (.tup (cutD l lo hi))
  | _ => False
def dSl (pa : PTE) (plo phi : PTO) : PTE := fun w ρ M q => pa w ρ M fun d M1 => plo w ρ M1 fun l M2 => phi w ρ M2 fun h M3 => slR d l h fun z => q z M3
theorem de_sl {lo hi : Option Expr} {plo phi : PTO} {p2 : Pos} (ha : DO X W a pa) (hl : DP X W lo plo) (hh : DP X W hi phi) : DE X W (.Subscript a (.Slice lo hi none p2) pos) (dSl pa plo phi) :=
  pe_imp (pe_slice (sl_list.or sl_tupA) ha hl hh) fun σ H Q ⟨g, ρ, M, F, O, q, w, A, pr, hw, k⟩ =>
  ⟨g, ρ, M, F, O, _, w, A, pr, hw, fun v H1 F1 O1 M1 d A1 s1 r1 q1 => ⟨g, ρ, M1, F1, O1, _, w, A1, q1, hw.mono s1, fun l H2 F2 O2 M2 A2 s2 q2 => ⟨g, ρ, M2, F2, O2, _, w, A2, q2, hw.mono (s1.trans s2), fun h H3 F3 O3 M3 A3 s3 q3 => by
    have r3 := r1.mono (s2.trans s3)
    cases d with
    | lst ds =>
      obtain ⟨p, xs, e1, h1, rl⟩ := r3.lst A3
      refine .inl ⟨p, xs, e1, .inl (.inl h1), fun t ht => ?_⟩
      have sn := same_new (o := .lst (cutV xs l h)) (A3.f0 ht)
      exact k _ _ _ O3 M3 (.lst (cutD ds l h)) (A3.lay ht) (((s1.trans s2).trans s3).trans sn) ⟨t, _, rfl, upd_same, RpL.mono sn _ _ (rpl_cut l h rl)⟩ q3
    | tup ds =>
      obtain ⟨p, xs, e1, h1, rl⟩ := r3.tupF
      refine .inr ⟨p, xs, e1, same_t A3.sub h1, fun z => ?_, fun z t ht => ?_⟩
      · have ec : cutD ds l h = ds := by
          unfold cutD
          rw [rl.len, z.1, z.2, List.drop_zero, Nat.sub_zero]
          exact List.take_of_length_le (by rw [rl.len]; exact Nat.le_refl _)
        have q4 : q (.tup (cutD ds l h)) M3 := q3
        rw [ec] at q4
        exact k _ _ _ O3 M3 (.tup ds) A3 ((s1.trans s2).trans s3) ⟨p, xs, rfl, h1, rl⟩ q4
      · have sn := same_new (o := .tup (cutV xs l h)) (A3.f0 ht)
        exact k _ _ _ O3 M3 (.tup (cutD ds l h)) (A3.lay ht) (((s1.trans s2).trans s3).trans sn) ⟨t, _, rfl, .inl (.inl upd_same), RpL.mono sn _ _ (rpl_cut l h rl)⟩ q3
    | _ => exact (show False from q3).elim⟩⟩⟩
/-! ## tuple(x), list(x) -/
def fTup : F1
  | .lst l, k => k (.tup l)
  | .tup l, k => k (.tup l)
  | _, _ => False
theorem de_tupc (hg : Gl X "tuple") (hm : X.mg "tuple" = none) (ha : DO X W a pa) (he : starEach [a] X.env = (false, eval a X.env) :: starEach [] X.env := by rfl) (hpl : (backTo pos (starEach [] X.env)).any (·.1) = false := by rfl) :
    DE X W (.Call (.Name "tuple" p) [a] [] pos) (dB1 fTup pa) := de_t1 call_tuple_of (f := fTup) (fun g σ H ρ M F O x v k Q A rx h c => by
    cases x with
    | lst l =>
      obtain ⟨p, xs, e1, h1, rl⟩ := rx.lst A
      refine ⟨p, xs, by rw [e1], .inl ⟨.inl (.inl h1), fun t ht => ?_⟩⟩
      have sn := same_new (o := .tup xs) (A.f0 ht)
      exact c (.tup l) _ _ _ O (A.lay ht) sn ⟨t, _, rfl, .inl (.inl upd_same), RpL.mono sn _ _ rl⟩ h
    | tup l =>
      obtain ⟨p, xs, e1, h1, rl⟩ := rx.tupF
      exact ⟨p, xs, by rw [e1], .inr ⟨same_t A.sub h1, c (.tup l) _ H F O A (Same.refl F) ⟨p, xs, rfl, h1, rl⟩ h⟩⟩
    | _ => exact (show False from h).elim) hg hm (by decide +kernel) ha (by decide) (by decide) he hpl
/-! ## a, xs, b = e, [], c -/
theorem pure_neg {i : Int} {j : Nat} {p2 : Pos} : PE X (.UnaryOp .USub (.Constant (.int i) j p2) pos) (tC (.int (-i))) := pe_imp (pe_un un_neg pe_int) fun σ H Q h => ⟨i, rfl, h⟩
def dParL3 (i j l : Nat) (pe : PTE) (c : D) : PTS := fun w P ρ M => pe w ρ M fun d M' => P.nx (st (st (st ρ i (.val d)) j (.own [])) l (.val c)) M'
theorem ds_parL3 (i j l : Nat) {x y z : Str} {a c : Expr} {cv : V} {cd : D} {px py pz pt p2 : Pos} {kt k2 pt2} (hc : X.calm = true) (hN : X.N.Nodup) (ha : DE X W a pe) (hcst : PE X c (tC cv)) (hcr : ∀ F, Rp X.K F cd cv) (hi : X.N[i]? = some x := by rfl) (hj : X.N[j]? = some y := by rfl) (hl : X.N[l]? = some z := by rfl)
    (hij : i ≠ j := by decide) (hil : i ≠ l := by decide) (hjl : j ≠ l := by decide)
    (hx : X.env.scope.names.lookup x = some .local := by rfl) (hy : X.env.scope.names.lookup y = some .local := by rfl) (hz : X.env.scope.names.lookup z = some .local := by rfl)
    (h1 : starEach [a, .List [] p2, c] X.env = (false, eval a X.env) :: starEach [.List [] p2, c] X.env := by rfl) (h2 : starEach [.List [] p2, c] X.env = (false, eval (.List [] p2) X.env) :: starEach [c] X.env := by rfl) (h3 : starEach [c] X.env = (false, eval c X.env) :: starEach [] X.env := by rfl)
    (hw : swappedStores [.Tuple [.Name x px, .Name y py, .Name z pz] kt pt] (.Tuple [a, .List [] p2, c] k2 pt2) X.env = pure (some [x, y, z]) := by rfl)
    (hs : swapsWithSole [.Tuple [.Name x px, .Name y py, .Name z pz] kt pt] (.Tuple [a, .List [] p2, c] k2 pt2) pos.line X.env = pure false := by rfl) :
    DS X W (.Assign [.Tuple [.Name x px, .Name y py, .Name z pz] kt pt] (.Tuple [a, .List [] p2, c] k2 pt2) pos) (dParL3 i j l pe cd) :=
  ps_imp (ps_par3 hc hN hi hj hl hij hil hjl hx hy hz (pa_cons ha (pa_cons (pe_lst pa_nil) (pa_cons hcst pa_nil h3) h2) h1) hw hs) fun D σ H ⟨g, ρ, M, F, O, P, w, A, h, hw, k1, _⟩ =>
  ⟨g, ρ, M, F, O, _, w, A, h, hw, fun v H' F' O' M' d A' s r q => ⟨by show 0 ≤ sizeLine; decide, fun t ht => ⟨v, .ref t, cv, rfl,
    k1 _ _ _ M' F' _ ((((A'.laid (o := .lst []) ht).put r).putOwn upd_same (l := []) rfl (A'.f0 ht) (A'.o0 ht) (A'.g0 ht)).put (hcr F')) s q⟩⟩⟩
def dParL2 (i j : Nat) (pe : PTE) : PTS := fun w P ρ M => pe w ρ M fun d M' => P.nx (st (st ρ i (.val d)) j (.own [])) M'
theorem ds_parL2 (i j : Nat) {x y : Str} {a : Expr} {px py pt p2 : Pos} {kt k2 pt2} (hc : X.calm = true) (hN : X.N.Nodup) (ha : DE X W a pe) (hi : X.N[i]? = some x := by rfl) (hj : X.N[j]? = some y := by rfl)
    (hij : i ≠ j := by decide) (hx : X.env.scope.names.lookup x = some .local := by rfl) (hy : X.env.scope.names.lookup y = some .local := by rfl)
    (h1 : starEach [a, .List [] p2] X.env = (false, eval a X.env) :: starEach [.List [] p2] X.env := by rfl) (h2 : starEach [.List [] p2] X.env = (false, eval (.List [] p2) X.env) :: starEach [] X.env := by rfl)
    (hw : swappedStores [.Tuple [.Name x px, .Name y py] kt pt] (.Tuple [a, .List [] p2] k2 pt2) X.env = pure (some [x, y]) := by rfl)
    (hs : swapsWithSole [.Tuple [.Name x px, .Name y py] kt pt] (.Tuple [a, .List [] p2] k2 pt2) pos.line X.env = pure false := by rfl) :
    DS X W (.Assign [.Tuple [.Name x px, .Name y py] kt pt] (.Tuple [a, .List [] p2] k2 pt2) pos) (dParL2 i j pe) :=
  ps_imp (ps_par hc hN hi hj hij hx hy (pa_cons ha (pa_cons (pe_lst pa_nil) pa_nil h2) h1) hw hs) fun D σ H ⟨g, ρ, M, F, O, P, w, A, h, hw, k1, _⟩ =>
  ⟨g, ρ, M, F, O, _, w, A, h, hw, fun v H' F' O' M' d A' s r q => ⟨by show 0 ≤ sizeLine; decide, fun t ht => ⟨v, .ref t, rfl,
    k1 _ _ _ M' F' _ (((A'.laid (o := .lst []) ht).put r).putOwn upd_same (l := []) rfl (A'.f0 ht) (A'.o0 ht) (A'.g0 ht)) s q⟩⟩⟩
end
end Px

set_option Elab.async false
set_option linter.all false
set_option maxRecDepth 100000
namespace Px
open PySem PySem.Spec PyProof.Rows L2
theorem kwb_of {K : PySem.W.Frag} {x qual : Str} {st : Stmt} {f : Addr} {fd : FuncData} {ps : List Str} (ks : List Str) (ix : List Nat) (F : L2.Fun K x qual st f fd)
    (h : ∀ (kV doc pm : Value) (an : Option Addr) (cdv ct : Value) (ws : List Value), (pick ix ws).length = ps.length → bindArgs (PySem.W.fnOf x qual (defArgs st) (defBody st) (defScope st) .none kV doc pm an cdv ct) ⟨[], ks.zip ws⟩ = pure (ps.zip (pick ix ws))) : KwB K fd ps ks ix := by
  obtain ⟨oc, od, kV, doc, pm, an, cdv, ct, osl, rfl, lk, hcd⟩ := F.ex
  exact fun s ws _ hl => .of_eq (h kV doc pm an cdv ct ws hl)
end Px

set_option Elab.async false
set_option linter.all false
set_option maxRecDepth 100000
namespace Px
open PySem PySem.Spec PyProof.Rows L2
/-! ## shifts -/
def fShl : F2
  | .int i, .int j, k => CPow i j ∧ k (.int (i * 2 ^ j.toNat))
  | _, _, _ => False
def fShr : F2
  | .int i, .int j, k => 0 ≤ j ∧ k (.int (i / 2 ^ j.toNat))
  | _, _, _ => False
section
variable {X : Cx} {W : WX} {K : PySem.W.Frag} {a b : Expr} {pa pb : PTE} {pos : Pos}
theorem opf_shl : OpF K (rI CPow fun i j => .int (i * 2 ^ j.toNat)) fShl := opf_i (h' := fun i j => .int (i * 2 ^ j.toNat)) (fun _ _ _ => rfl) fun x y k h => by
  unfold fShl at h
  split at h
  · exact ⟨_, _, rfl, rfl, h⟩
  · exact h.elim
theorem opf_shr : OpF K (rI (fun _ j => 0 ≤ j) fun i j => .int (i / 2 ^ j.toNat)) fShr := opf_i (h' := fun i j => .int (i / 2 ^ j.toNat)) (fun _ _ _ => rfl) fun x y k h => by
  unfold fShr at h
  split at h
  · exact ⟨_, _, rfl, rfl, h⟩
  · exact h.elim
theorem de_shl (ha : DO X W a pa) (hb : DO X W b pb) : DE X W (.BinOp a .LShift b pos) (dOp fShl pa pb) := de_op op_shl opf_shl ha hb
theorem de_shr (ha : DO X W a pa) (hb : DO X W b pb) : DE X W (.BinOp a .RShift b pos) (dOp fShr pa pb) := de_op op_shr opf_shr ha hb
end
/-! ## an int in a list or a tuple of ints -/
def itemsD : D → Option (List Int)
  | .lst l => intsOf l
  | .tup l => intsOf l
  | _ => none
def fInI (neg : Bool) : F2 := fun x y k => match x, itemsD y with
  | .int i, some ns => k (.bl (if neg then !decide (i ∈ ns) else decide (i ∈ ns)))
  | _, _ => False
theorem inV_ints (i : Int) (ns : List Int) : inV (.int i) (ns.map V.int) = decide (i ∈ ns) := by
  unfold inV
  induction ns with
  | nil => rfl
  | cons n r ih =>
    rw [List.map_cons, List.any_cons, ih]
    have e : eqV (.int n) (.int i) = decide (i = n) := by
      show decide (n = i) = decide (i = n)
      by_cases c : n = i
      · subst c; rfl
      · rw [decide_eq_false c, decide_eq_false (fun z => c z.symm)]
    rw [e]
    by_cases c : i = n
    · subst c; simp
    · simp [c]

theorem flat_ints (ns : List Int) : (ns.map V.int).all flatV = true := by
  rw [List.all_eq_true]
  intro x hx
  obtain ⟨n, _, rfl⟩ := List.mem_map.mp hx
  rfl
theorem opf_inI {K : PySem.W.Frag} (neg : Bool) : OpF K (rIn K neg) (fInI neg) := by
  intro g σ H ρ M F O x y v u k Q A rx ry h c
  cases x with
  | int i =>
    have fin : ∀ (p : Addr) (l : List D) (xs : List V), u = .ref p → (SqL K H p xs ∨ SqT K H p xs) → RpL K F l xs → intsOf l = itemsD y → rIn K neg v u H Q := fun p l xs eu hs rl el => by
      cases e : intsOf l with
      | none =>
        rw [e] at el
        simp only [fInI, ← el] at h
      | some ns =>
        rw [e] at el
        simp only [fInI, ← el] at h
        have e1 := intsOf_eq e
        subst e1
        have ex := rl.ints
        subst ex
        refine ⟨p, ns.map V.int, eu, hs, by rw [rx.int]; rfl, flat_ints ns, ?_⟩
        rw [rx.int, inV_ints]
        exact c (.bl (if neg then !decide (i ∈ ns) else decide (i ∈ ns))) _ H F O A (Same.refl F) rfl h
    cases y with
    | lst l =>
      obtain ⟨p, xs, e1, h1, rl⟩ := ry.lst A
      exact fin p l xs e1 (.inl (.inl (.inl h1))) rl rfl
    | tup l =>
      obtain ⟨p, xs, e1, h1, rl⟩ := ry.tupF
      exact fin p l xs e1 (.inr (same_t A.sub h1)) rl rfl
    | _ => exact (show False from h).elim
  | _ => exact (show False from h).elim
section
variable {X : Cx} {W : WX} {a b : Expr} {pa pb : PTE} {pos : Pos}
theorem de_inI (ha : DO X W a pa) (hb : DO X W b pb) (hm : behindInMarks .In b = false := by rfl) : DE X W (.Compare a [.In] [b] pos) (dOp (fInI false) pa pb) := de_cmp op_in_seq (opf_inI false) ha hb hm
theorem de_notinI (ha : DO X W a pa) (hb : DO X W b pb) (hm : behindInMarks .NotIn b = false := by rfl) : DE X W (.Compare a [.NotIn] [b] pos) (dOp (fInI true) pa pb) := de_cmp op_notIn_seq (opf_inI true) ha hb hm
theorem dt_inI (ha : DO X W a pa) (hb : DO X W b pb) (hm : behindInMarks .In b = false := by rfl) : DT X W (.Compare a [.In] [b] pos) (dTst (dOp (fInI false) pa pb)) := dt_cmp op_in_seq (opf_inI false) ha hb hm
theorem dt_notinI (ha : DO X W a pa) (hb : DO X W b pb) (hm : behindInMarks .NotIn b = false := by rfl) : DT X W (.Compare a [.NotIn] [b] pos) (dTst (dOp (fInI true) pa pb)) := dt_cmp op_notIn_seq (opf_inI true) ha hb hm
end
end Px

set_option Elab.async false
set_option linter.all false
set_option maxRecDepth 100000
set_option maxHeartbeats 4000000
namespace Px
open PySem PySem.Spec PyProof.Rows L2
/-! # sorted of a list of tuples of ints -/
def lexL : List Int → List Int → Bool
  | [], [] => false
  | [], _ :: _ => true
  | _ :: _, [] => false
  | x :: r, y :: s => if x = y then lexL r s else decide (x < y)
theorem lexL_irr : ∀ l : List Int, lexL l l = false
  | [] => rfl
  | x :: r => by unfold lexL; rw [if_pos rfl]; exact lexL_irr r
theorem lexL_asym : ∀ {a b : List Int}, lexL a b = true → lexL b a = false
  | [], [], _ => rfl
  | [], _ :: _, _ => rfl
  | _ :: _, [], h => (nomatch h)
  | x :: r, y :: s, h => by
    unfold lexL at h ⊢
    by_cases c : x = y
    · subst c
      rw [if_pos rfl] at h ⊢
      exact lexL_asym h
    · rw [if_neg c, decide_eq_true_eq] at h
      rw [if_neg (fun z => c z.symm)]
      exact decide_eq_false (by omega)
theorem lexL_neg : ∀ {a b c : List Int}, lexL a b = false → lexL b c = false → lexL a c = false
  | _, [], [], h, _ => h
  | [], [], _ :: _, _, h2 => nomatch h2
  | _ :: _, [], _ :: _, _, h2 => nomatch h2
  | [], _ :: _, _, h1, _ => nomatch h1
  | _ :: _, _ :: _, [], _, _ => rfl
  | x :: r, y :: s, z :: t, h1, h2 => by
    unfold lexL at h1 h2 ⊢
    by_cases c1 : x = y
    · subst c1
      rw [if_pos rfl] at h1
      by_cases c2 : x = z
      · subst c2
        rw [if_pos rfl] at h2 ⊢
        exact lexL_neg h1 h2
      · rw [if_neg c2] at h2 ⊢
        exact h2
    · rw [if_neg c1, decide_eq_false_iff_not] at h1
      by_cases c2 : y = z
      · subst c2
        rw [if_neg c1]
        exact decide_eq_false h1
      · rw [if_neg c2, decide_eq_false_iff_not] at h2
        rw [if_neg (by omega)]
        exact decide_eq_false (by omega)
theorem swo_lexL (k : Value → List Int) : SrtO.Swo fun v u => lexL (k v) (k u) := ⟨fun x y h => lexL_asym h, fun x y z h1 h2 => lexL_neg h2 h1⟩

section
variable {prog : Program} {w : World} {A : Around} {s : Shared}
theorem kat_ints {b fin : Bool} {Q : Bool → Shared → Prop} : ∀ {xs ys : List Value} {ms ns : List Int} (i : Nat), IntsAre xs ms → IntsAre ys ns → fin = decide (xs.length < ys.length) → Q (lexL ms ns) s → PySem.W.KatLex prog w A b fin Q (xs.zip ys) i s
  | _, _, _, _, i, .nil, .nil, hf, q => by
    subst hf
    exact q
  | _, _, _, _, i, .nil, .cons _ _ _, hf, q => by
    subst hf
    refine PySem.W.kat_nil ?_
    rw [decide_eq_true (by simp)]
    exact q
  | _, _, _, _, i, .cons _ _ _, .nil, hf, q => by
    subst hf
    refine PySem.W.kat_nil ?_
    rw [decide_eq_false (by simp)]
    exact q
  | _, _, _, _, i, .cons x t hx, .cons y u hy, hf, q => by
    rename_i xs' ms' ys' ns'
    refine PySem.W.kat_cons (SeqAt.EqAt.int_int x t y u prog w _ _ ?_)
    refine PySem.W.kat_go (fun e1 => ?_) (fun e1 => ?_)
    · have ex : x = y := by simpa using e1
      refine PySem.W.kat_yes (kat_ints (i + 1) hx hy (by rw [hf, List.length_cons, List.length_cons]; simp) ?_)
      have q' : Q (if x = y then lexL ms' ns' else decide (x < y)) s := q
      rw [if_pos ex] at q'
      exact q'
    · have ex : ¬ x = y := by simpa using e1
      have q' : Q (if x = y then lexL ms' ns' else decide (x < y)) s := q
      rw [if_neg ex] at q'
      exact PySem.W.kat_no (TS.oneLt_ints _ q')
theorem ints_cmp {vs : List Value} {k : Value → List Int} {b : Bool} (hp : ∀ v ∈ vs, TS.TupInts s.heap v (k v)) : SrtO.Cmp prog w A s (tuples' b) (fun p => p.1 ∈ vs) (SrtO.lt2 fun v u => lexL (k v) (k u)) := by
  intro p q hm hm'
  obtain ⟨a, xs, e1, ⟨o, ho, hc, n, hd⟩, hx⟩ := hp _ hm
  obtain ⟨a', ys, e2, ⟨o', ho', hc', n', hd'⟩, hy⟩ := hp _ hm'
  show wpAny (model prog w) A (keyLt' (tuples' b) p.1 q.1) (fun r s' => s' = s ∧ r = lexL (k p.1) (k q.1)) (fun _ _ => False) s
  rw [e1, e2]
  refine PySem.W.kat_lt ho hd ho' hd' (kat_ints 0 hx hy (by simp) ⟨rfl, ?_⟩)
  rw [← e1, ← e2]
theorem ints_firsts {h : Heap} {k : Value → List Int} : ∀ vs : List Value, (∀ v ∈ vs, TS.TupInts h v (k v) ∧ k v ≠ []) → ∃ fs, PySem.W.KatTups h vs fs ∧ fs.length = vs.length ∧ ∀ f, f ∈ fs → ∃ n t, f = Value.int n t
  | [], _ => ⟨[], PySem.W.KatTups.nil, rfl, fun f hf => (nomatch hf)⟩
  | v :: vs, x => by
    obtain ⟨fs, kt, hl, hi⟩ := ints_firsts (k := k) vs fun u hu => x u (List.mem_cons_of_mem _ hu)
    obtain ⟨⟨a, xs, ev, ⟨o, ho, hc, n, hdt⟩, i⟩, hn⟩ := x v (List.mem_cons_self ..)
    obtain ⟨y, ys, e⟩ : ∃ y ys, xs.toList = y :: ys := by
      cases q : xs.toList with
      | nil =>
        rw [q] at i
        have l := i.length
        rw [List.length_nil] at l
        exact absurd (List.length_eq_zero_iff.mp l.symm) hn
      | cons y ys => exact ⟨y, ys, rfl⟩
    obtain ⟨m, t, hy⟩ := i.all y (by rw [e]; exact List.mem_cons_self ..)
    subst ev
    refine ⟨y :: fs, PySem.W.KatTups.cons ho hc hdt ?_ kt, by simp [hl], ?_⟩
    · have z := congrArg (fun l : List Value => l[0]?) e
      simpa using z
    · intro f hf
      rcases List.mem_cons.mp hf with rfl | hf
      · exact ⟨m, t, hy⟩
      · exact hi f hf
theorem ints_sortable {a : Addr} {vs : List Value} {k : Value → List Int} (h0 : 0 < vs.length) (hp : ∀ v ∈ vs, TS.TupInts s.heap v (k v) ∧ k v ≠ []) (ha : ∀ o, s.heap.get? a = some o → o.cls ≠ .type "tuple") : SrtO.SortableO prog w A s a vs fun v u => lexL (k v) (k u) := by
  intro h' keep
  have hp' : ∀ v ∈ vs, TS.TupInts h' v (k v) ∧ k v ≠ [] := fun v hm => ⟨(hp v hm).1.keeps fun b o e c => keep b o (fun z => by subst z; exact ha o e c) e, (hp v hm).2⟩
  obtain ⟨fs, h1, h2, h3⟩ := ints_firsts vs hp'
  refine ⟨tuples' true, fun Q E hq => ?_, ints_cmp fun v hm => (hp' v hm).1⟩
  refine PySem.W.kat_kind (T := .type "int") h1 (by omega) (fun f hm => ?_) (by rfl) ?_
  · obtain ⟨x, t, rfl⟩ := h3 f hm
    exact PySem.W.Looks.now
  · have e : (Value.type "int" != Value.type "tuple") = true := by first | decide +kernel | rfl | decide
    rw [e]
    exact hq
/-- sorted(l), l a list of tuples of ints, none of them empty -/
theorem sorted_ints {E : Value → Shared → Prop} {l : Addr} {vs : List Value} {k : Value → List Int} {Q : Value → Shared → Prop} (hl : s.heap.IsList l vs.toArray) (hz : vs.length ≤ sizeLine) (hp : ∀ v ∈ vs, TS.TupInts s.heap v (k v) ∧ k v ≠ [])
    (h : ∀ (h' : Heap) (d : Addr) (out : List Value), SrtO.Srtd (fun v u => lexL (k v) (k u)) out → SrtO.Stb (fun v u => lexL (k v) (k u)) out vs → (∀ b o, s.heap.get? b = some o → h'.get? b = some o) → s.heap.objs.size ≤ d → (∃ n, h'.get? d = some (seqObj "list" out.toArray n)) → Q (.ref d) { s with heap := h' }) :
    wpAny (model prog w) A (call (.builtin "sorted") [.ref l]) Q E s := by
  refine SrtO.sorted_ord (swo_lexL k) hl hz (fun h2 h₁ a ha kk => ?_) fun out hs hb => ?_
  · refine ints_sortable (s := { s with heap := h₁ }) (by omega) (fun v hm => ⟨(hp v hm).1.keeps fun b o e _ => (kk b o e).2, (hp v hm).2⟩) fun o e => ?_
    have e' : some o = some (seqObj "list" vs.toArray 0) := e.symm.trans ha
    cases e'
    intro c
    exact absurd (Value.type.inj c) (by decide)
  · exact h _ _ out hs hb (fun b o e => sortedAll_old e) (Nat.le_succ _) (sortedAll_at s.heap vs out.toArray)
end
end Px

set_option Elab.async false
set_option linter.all false
set_option maxRecDepth 100000
set_option maxHeartbeats 4000000
namespace Px
open PySem PySem.Spec PyProof.Rows L2
theorem lexLt_lexL : ∀ a b : List Int, HT.lexLt a b = lexL a b
  | [], [] => rfl
  | [], _ :: _ => rfl
  | _ :: _, [] => rfl
  | x :: r, y :: s => by
    rw [HT.lexLt_cons, lexLt_lexL r s]
    rfl
section
variable {prog : Program} {w : World} {A : Around} {s : Shared} {E : Value → Shared → Prop}
theorem one_tups {p q : Value} {ns ms : List Int} {Q : Bool → Shared → Prop} (hp : TS.TupInts s.heap p ns) (hq : TS.TupInts s.heap q ms) (hu : A.units < cLine) (h : Q (lexL ns ms) s) : wpAny (model prog w) A (keyLt' oneType' p q) Q E s := by
  obtain ⟨l, xs, rfl, hl, hx⟩ := hp
  obtain ⟨b, ys, rfl, hb, hy⟩ := hq
  obtain ⟨⟨cls, dd, data, sl⟩, ho, hc, n, hd⟩ := id hl
  obtain ⟨⟨cls2, dd2, data2, sl2⟩, ho2, hc2, n2, hd2⟩ := id hb
  simp only at hc hd hc2 hd2
  subst hc hd hc2 hd2
  rw [keyLt'_oneType, oneLt'_eq]
  simp only [if_true]
  refine wpAny_bind (wpAny_cRoomFor_or (.inr hu) ?_)
  refine wpAny_bind (wpAny_callSpecialIfBound?_slot (T := "tuple") ⟨_, ho, rfl⟩ PySem.F.slot_tuple_lt (call_meets PySem.F.slot_tuple_lt ⟨_, ho, rfl⟩ PySem.F.entry_tuple_lt (PySem.F.args_tuple_lt_2 _ _) (HT.tuple_lt_ints l b xs ys n n2 dd dd2 sl sl2 ns ms hx hy) ⟨ho, ho2, ?_⟩))
  rw [lexLt_lexL]
  exact wpAny_truthy_bool h
end
end Px

set_option Elab.async false
set_option linter.all false
set_option maxRecDepth 100000
set_option maxHeartbeats 4000000
namespace Px
open PySem PySem.Spec PyProof.Rows L2
section
variable {M : Model} {A : Around} {E : Value → Shared → Prop} {s : Shared}
theorem firsts_any {k : Value → List Int} : ∀ (vs : List Value) {Q : List (Option Value) → Shared → Prop}, (∀ v ∈ vs, TS.TupInts s.heap v (k v)) → (∀ os : List (Option Value), os.length = vs.length → (∀ v r, vs = v :: r → k v = [] → ∃ r', os = none :: r') → Q os s) → wpAny M A (vs.mapM firstOfTuple') Q E s
  | [], Q, _, h => by
    rw [List.mapM_nil]
    exact wpAny_pure (h [] rfl fun _ _ e => (nomatch e))
  | v :: vs, Q, x, h => by
    obtain ⟨a, xs, ev, ⟨o, ho, hc, n, hd⟩, i⟩ := x v List.mem_cons_self
    rw [List.mapM_cons]
    refine wpAny_bind ?_
    rw [PySem.W.kas_first_eq, ev]
    refine wpAny_bind (PySem.W.Looks.here (show PySem.W.Looks M s.heap (typeOf (.ref a)) o.cls from (PySem.W.Looks.ld ho).andThen .now) ?_)
    rw [hc, if_neg (by first | decide | simp)]
    refine wpAny_bind (listItems_at ho hd (wpAny_pure ?_))
    refine wpAny_bind (firsts_any vs (k := k) (fun u hu => x u (List.mem_cons_of_mem _ hu)) fun os hl _ => wpAny_pure (h (xs[0]? :: os) (by simp [hl]) fun v' r e hk => ?_))
    cases e
    rw [hk] at i
    have e0 : xs.toList = [] := by
      have l := i.length
      rw [List.length_nil] at l
      exact List.length_eq_zero_iff.mp l
    have e1 : xs[0]? = none := by
      have e2 : xs.size = 0 := by simpa using congrArg List.length e0
      exact Array.getElem?_eq_none (by omega)
    exact ⟨os, by rw [e1]⟩
theorem kind_empty {vs : List Value} {k : Value → List Int} {Q : SortKind → Shared → Prop} {v0 : Value} {r0 : List Value} (ev : vs = v0 :: r0) (h0 : k v0 = []) (hp : ∀ v ∈ vs, TS.TupInts s.heap v (k v)) (h : Q oneType' s) : wpAny M A (keyKind' vs.toArray) Q E s := by
  rw [keyKind'_eq, List.mapM_toArray, map_eq_pure_bind]
  refine wpAny_bind (wpAny_bind (firsts_any vs hp fun os hl hf => wpAny_pure ?_))
  obtain ⟨r', eo⟩ := hf v0 r0 ev h0
  subst eo
  rw [if_neg (by simp), if_neg (by simp)]
  rw [oneTypeOnly'_eq, List.mapM_toArray, map_eq_pure_bind]
  refine wpAny_bind (wpAny_bind (wpAny_bind (PySem.W.kas_mapM (r := Value.type "tuple") _ (fun v hv Q' hq => ?_) (wpAny_pure ?_))))
  · obtain ⟨a, xs, e, ⟨o, ho, hc, n, hd⟩, i⟩ := hp v hv
    rw [e]
    refine PySem.W.Looks.here (show PySem.W.Looks M s.heap (typeOf (.ref a)) o.cls from (PySem.W.Looks.ld ho).andThen .now) ?_
    rw [hc]
    exact hq
  · subst ev
    have hall : ((List.map (fun _ => Value.type "tuple") (v0 :: r0)).toArray.all fun x => x == Value.type "tuple") = true := by
      simp only [List.all_toArray, List.all_map, List.all_eq_true]
      intro _ _
      first | rfl | decide
    have h0 : (List.map (fun _ => Value.type "tuple") (v0 :: r0)).toArray[0]? = some (Value.type "tuple") := by simp
    rw [h0]
    simp only [hall, if_true]
    exact wpAny_pure (wpAny_pure h)
end
section
variable {prog : Program} {w : World} {A : Around} {s : Shared} {E : Value → Shared → Prop}
theorem empty_sortable {a : Addr} {vs : List Value} {k : Value → List Int} {v0 : Value} {r0 : List Value} (ev : vs = v0 :: r0) (h0 : k v0 = []) (hu : A.units < cLine) (hp : ∀ v ∈ vs, TS.TupInts s.heap v (k v)) (ha : ∀ o, s.heap.get? a = some o → o.cls ≠ .type "tuple") : SrtO.SortableO prog w A s a vs fun v u => lexL (k v) (k u) := by
  intro h' keep
  have hp' : ∀ v ∈ vs, TS.TupInts h' v (k v) := fun v hm => (hp v hm).keeps fun b o e c => keep b o (fun z => by subst z; exact ha o e c) e
  refine ⟨oneType', fun Q E hq => kind_empty (s := { s with heap := h' }) ev h0 hp' hq, fun p q hm hm' => ?_⟩
  exact one_tups (s := { s with heap := h' }) (hp' _ hm) (hp' _ hm') hu ⟨rfl, rfl⟩
end
end Px

set_option Elab.async false
set_option linter.all false
set_option maxRecDepth 100000
namespace Px
open PySem PySem.Spec PyProof.Rows L2
section
variable {prog : Program} {w : World} {A : Around} {s : Shared} {E : Value → Shared → Prop}
/-- sorted(l), l a list of tuples of ints, none of them empty or the first one empty -/
theorem sorted_tups {l : Addr} {vs : List Value} {k : Value → List Int} {Q : Value → Shared → Prop} (hu : A.in1.in1.units < cLine) (hl : s.heap.IsList l vs.toArray) (hz : vs.length ≤ sizeLine) (hp : ∀ v ∈ vs, TS.TupInts s.heap v (k v))
    (hk : (∀ v ∈ vs, k v ≠ []) ∨ ∃ v0 r0, vs = v0 :: r0 ∧ k v0 = [])
    (h : ∀ (h' : Heap) (d : Addr) (out : List Value), SrtO.Srtd (fun v u => lexL (k v) (k u)) out → SrtO.Stb (fun v u => lexL (k v) (k u)) out vs → (∀ b o, s.heap.get? b = some o → h'.get? b = some o) → s.heap.objs.size ≤ d → (∃ n, h'.get? d = some (seqObj "list" out.toArray n)) → Q (.ref d) { s with heap := h' }) :
    wpAny (model prog w) A (call (.builtin "sorted") [.ref l]) Q E s := by
  refine SrtO.sorted_ord (swo_lexL k) hl hz (fun h2 h₁ a ha kk => ?_) fun out hs hb => ?_
  · have hp' : ∀ v ∈ vs, TS.TupInts h₁ v (k v) := fun v hm => (hp v hm).keeps fun b o e _ => (kk b o e).2
    have hc : ∀ o, ({ s with heap := h₁ } : Shared).heap.get? a = some o → o.cls ≠ .type "tuple" := fun o e => by
      have e' : some o = some (seqObj "list" vs.toArray 0) := e.symm.trans ha
      cases e'
      intro c
      exact absurd (Value.type.inj c) (by decide)
    rcases hk with hk | ⟨v0, r0, ev, h0⟩
    · exact ints_sortable (s := { s with heap := h₁ }) (by omega) (fun v hm => ⟨hp' v hm, hk v hm⟩) hc
    · exact empty_sortable (s := { s with heap := h₁ }) ev h0 hu hp' hc
  · exact h _ _ out hs hb (fun b o e => sortedAll_old e) (Nat.le_succ _) (sortedAll_at s.heap vs out.toArray)
end

def rSortedI (K : PySem.W.Frag) : List V → Hp → VK → Prop := fun vs H Q => ∃ (a : Addr) (xs : List V) (k : V → List Int), vs = [V.ref a] ∧ SqL K H a xs ∧ (∀ x ∈ xs, ∃ t, x = V.ref t ∧ SqT K H t ((k x).map V.int)) ∧
  ((∀ x ∈ xs, k x ≠ []) ∨ ∃ x0 r0, xs = x0 :: r0 ∧ k x0 = []) ∧ ∀ ys p, SrtO.Srtd (fun x y => lexL (k x) (k y)) ys → ys.Perm xs → H p = none → Q (.ref p) (upd H p (.lst ys))
theorem swo_lexV (k : V → List Int) : SrtO.Swo fun v u => lexL (k v) (k u) := ⟨fun x y h => lexL_asym h, fun x y z h1 h2 => lexL_neg h2 h1⟩
section
variable {X : Cx}
theorem cr_sortedI (hu : X.A.in1.in1.units < cLine) : CallR X (.builtin "sorted") (rSortedI X.K) := by
  intro pins s σ H vs us Q I r h
  obtain ⟨a, xs, k, rfl, hs, hx, hk, q⟩ := h
  obtain ⟨its, rv, hl, hz⟩ := I.list hs
  obtain ⟨u, rfl, ru⟩ := vals1 r
  obtain rfl : u = Value.ref a := ru
  obtain ⟨e1, e2⟩ := refs_back rv fun x m => by
    obtain ⟨t, e, _⟩ := hx x m
    exact ⟨t, e⟩
  refine sorted_tups (k := fun u => k (backV u)) hu hl.isList (by rw [← rv.length]; exact hz) (fun v hv => ?_) ?_ fun h' d out h1 h2 kp hd hn => ?_
  · obtain ⟨t, rfl⟩ := e2 v hv
    have hm : V.ref t ∈ xs := by rw [e1]; exact List.mem_map.mpr ⟨_, hv, rfl⟩
    obtain ⟨t', e, ht⟩ := hx _ hm
    cases e
    obtain ⟨its2, r2, pt, _⟩ := I.tuple ht
    have ia := intsAre_of r2
    exact ⟨t, its2.toArray, rfl, pt, (show IntsAre its2 (k (V.ref t)) from ia)⟩
  · rcases hk with hk | ⟨x0, r0, ex, h0⟩
    · refine .inl fun v hv => hk _ ?_
      rw [e1]; exact List.mem_map.mpr ⟨_, hv, rfl⟩
    · rw [e1] at ex
      cases its with
      | nil => exact nomatch ex
      | cons v r =>
        injection ex with ex _
        exact .inr ⟨v, r, rfl, by rw [ex]; exact h0⟩
  · have h3 : ∀ u ∈ out, ∃ a, u = Value.ref a := fun u hu => e2 u (h2.perm.mem_iff.mp hu)
    obtain ⟨n, hn⟩ := hn
    have hb : (out.map backV).Perm xs := by
      rw [e1]
      exact h2.perm.map backV
    refine ⟨.ref d, upd H d (.lst (out.map backV)), I.laid (t' := s.toks) kp hd ⟨?_, out, n, vals_back h3, hn⟩, rfl, q _ d (SrtO.srtd_map h1) hb (I.hok.fresh hd)⟩
    rw [hb.length_eq]
    exact hz
end
end Px

set_option Elab.async false
set_option linter.all false
set_option maxRecDepth 100000
namespace Px
open PySem PySem.Spec PyProof.Rows L2
def TupsV (K : PySem.W.Frag) (H : Hp) : List V → List (List Int) → Prop
  | [], [] => True
  | x :: xs, n :: ns => (∃ t, x = .ref t ∧ SqT K H t (n.map V.int)) ∧ TupsV K H xs ns
  | _, _ => False
def rSortedQ (K : PySem.W.Frag) : List V → Hp → VK → Prop := fun vs H Q => ∃ (F : Hp) (a : Addr) (xs : List V) (nss : List (List Int)), Same F H ∧ vs = [V.ref a] ∧ SqL K H a xs ∧ TupsV K F xs nss ∧ ((∀ n ∈ nss, n ≠ []) ∨ ∃ r, nss = [] :: r) ∧
  ∀ ys mss p, TupsV K F ys mss → mss.Pairwise (fun x y => lexL y x = false) → mss.Perm nss → H p = none → Q (.ref p) (upd H p (.lst ys))
theorem int_map_inj : ∀ {a b : List Int}, a.map V.int = b.map V.int → a = b
  | [], [], _ => rfl
  | [], _ :: _, h => (nomatch h)
  | _ :: _, [], h => (nomatch h)
  | x :: r, y :: s, h => by
    injection h with h1 h2
    rw [V.int.inj h1, int_map_inj h2]
open Classical in
noncomputable def kOf (K : PySem.W.Frag) (H : Hp) (x : V) : List Int := if h : ∃ ns t, x = V.ref t ∧ SqT K H t (List.map V.int ns) then h.choose else []
section
variable {X : Cx} {pins : List (Addr × Obj)} {σ : L2.St} {H F : Hp} {s : Shared}
theorem kOf_is (I : Inv X pins σ H s) (sm : Same F H) {x : V} {ns : List Int} {t : Addr} (e : x = .ref t) (h : SqT X.K F t (ns.map V.int)) : kOf X.K F x = ns := by
  have hx : ∃ ns t, x = V.ref t ∧ SqT X.K F t (List.map V.int ns) := ⟨ns, t, e, h⟩
  unfold kOf
  rw [dif_pos hx]
  obtain ⟨t', e', h'⟩ := hx.choose_spec
  rw [e] at e'
  cases e'
  exact int_map_inj (I.tuple_inj (same_t sm h') (same_t sm h))
theorem kOf_all (I : Inv X pins σ H s) (sm : Same F H) : ∀ {xs : List V} {nss : List (List Int)}, TupsV X.K F xs nss → xs.map (kOf X.K F) = nss ∧ ∀ x ∈ xs, ∃ t, x = .ref t ∧ SqT X.K F t ((kOf X.K F x).map V.int)
  | [], [], _ => ⟨rfl, fun _ h => (nomatch h)⟩
  | [], _ :: _, h => h.elim
  | _ :: _, [], h => h.elim
  | x :: xs, n :: ns, ⟨⟨t, e, h1⟩, h2⟩ => by
    obtain ⟨a1, a2⟩ := kOf_all I sm h2
    have ek := kOf_is I sm e h1
    refine ⟨by rw [List.map_cons, a1, ek], fun y hy => ?_⟩
    rcases List.mem_cons.mp hy with rfl | hy
    · exact ⟨t, e, by rw [ek]; exact h1⟩
    · exact a2 y hy
theorem tupsV_map {K : PySem.W.Frag} {H : Hp} {k : V → List Int} : ∀ {ys : List V}, (∀ x ∈ ys, ∃ t, x = .ref t ∧ SqT K H t ((k x).map V.int)) → TupsV K H ys (ys.map k)
  | [], _ => trivial
  | y :: ys, h => ⟨h y List.mem_cons_self, tupsV_map fun x hx => h x (List.mem_cons_of_mem _ hx)⟩
theorem cr_sortedQ (hu : X.A.in1.in1.units < cLine) : CallR X (.builtin "sorted") (rSortedQ X.K) := by
  intro pins s σ H vs us Q I r h
  obtain ⟨F, a, xs, nss, sm, e, hs, ht, hk, q⟩ := h
  obtain ⟨k1, k2⟩ := kOf_all I sm ht
  refine cr_sortedI hu pins s σ H vs us Q I r ⟨a, xs, kOf X.K F, e, hs, fun x hx => let ⟨t, e, h⟩ := k2 x hx; ⟨t, e, same_t sm h⟩, ?_, fun ys p h1 h2 hp => ?_⟩
  · rcases hk with hk | ⟨r, er⟩
    · exact .inl fun x hx => hk _ (by rw [← k1]; exact List.mem_map.mpr ⟨x, hx, rfl⟩)
    · rw [er] at k1
      cases xs with
      | nil => exact nomatch k1
      | cons x xr =>
        injection k1 with k1 _
        exact .inr ⟨x, xr, rfl, k1⟩
  · refine q ys (ys.map (kOf X.K F)) p (tupsV_map fun x hx => k2 x (h2.mem_iff.mp hx)) (List.pairwise_map.mpr h1) ?_ hp
    rw [← k1]
    exact h2.map _
end

theorem hu_in2 {A : Around} {k : Nat} (hr : Room k A) : A.in1.in1.units < cLine := by
  show A.units + 1 + 1 < cLine
  have := hr.units
  omega
/-! ## sorted, over plain data -/
abbrev tupI (ns : List Int) : D := .tup (ns.map .int)
def fSorted : G1 := fun x k => ∃ nss : List (List Int), x = .lst (nss.map tupI) ∧ ((∀ n ∈ nss, n ≠ []) ∨ ∃ r, nss = [] :: r) ∧ ∀ mss : List (List Int), mss.Pairwise (fun x y => lexL y x = false) → mss.Perm nss → k (mss.map tupI)
theorem tupsV_of {K : PySem.W.Frag} {F : Hp} : ∀ {nss : List (List Int)} {xs : List V}, RpL K F (nss.map tupI) xs → TupsV K F xs nss
  | [], xs, h => by
    have e : xs = [] := h
    subst e; trivial
  | n :: ns, xs, h => by
    obtain ⟨v, r, rfl, ⟨a, ys, e, hs, rl⟩, h2⟩ := h
    have ey := rl.ints
    subst ey
    exact ⟨⟨a, e, hs⟩, tupsV_of h2⟩
theorem rpl_tups {K : PySem.W.Frag} {F : Hp} : ∀ {xs : List V} {nss : List (List Int)}, TupsV K F xs nss → RpL K F (nss.map tupI) xs
  | [], [], _ => rfl
  | [], _ :: _, h => h.elim
  | _ :: _, [], h => h.elim
  | x :: xs, n :: ns, ⟨⟨t, e, h1⟩, h2⟩ => ⟨x, xs, rfl, ⟨t, n.map V.int, e, h1, RpL.of_ints n⟩, rpl_tups h2⟩
theorem bg_sorted {K : PySem.W.Frag} : BG1 K (rSortedQ K) fSorted := by
  intro g σ H ρ M F O x v k Q A rx h c
  obtain ⟨nss, rfl, hk, hq⟩ := h
  obtain ⟨a, xs, e, hp, rl⟩ := rx.lst A
  exact ⟨F, a, xs, nss, A.sub, by rw [e], .inl (.inl hp), tupsV_of rl, hk, fun ys mss p ht h1 h2 hn => c (mss.map tupI) p ys hn (rpl_tups ht) (hq mss h1 h2)⟩
section
variable {X : Cx} {W : WX} {a : Expr} {pa : PTE} {p pos : Pos}
theorem dl_sorted (hu : X.A.in1.in1.units < cLine) (hg : Gl X "sorted") (hm : X.mg "sorted" = none) (ha : DO X W a pa) (he : starEach [a] X.env = (false, eval a X.env) :: starEach [] X.env := by rfl) (hpl : (backTo pos (starEach [] X.env)).any (·.1) = false := by rfl) :
    DL X W (.Call (.Name "sorted" p) [a] [] pos) (dG1 fSorted pa) := dl_b1 (cr_sortedQ hu) bg_sorted hg hm (by decide +kernel) ha (by decide) (by decide) he hpl
end
end Px

set_option Elab.async false
set_option linter.all false
set_option maxRecDepth 100000
namespace Px
open PySem PySem.Spec PyProof.Rows L2

/-! # the program's defs over plain data: speeds -/
/-- where the error classes stand -/
structure Cl where
  (BadSpeed BadHalf BadNumber BadStretch BadDoubt BadHalves BadPattern TooGreat NoSpeed BadLook Clash BadProgram BadSayings BadGroups BadBands BadDeed BadLine Rows Net Pattern Program Moment Mark Watch FlashError : Addr)
  /-- the tables of code objects of the defs that make lambdas -/
  tb : Nat → Addr
def isI : D → Bool
  | .int _ => true
  | _ => false
def plain (d : D) : Bool := (tyD d).isSome
def parts (d : D) : Bool := match d with | .tup l => l.all plain | _ => true
def btwD (d : D) (lo hi : Int) : Bool := match d with | .int i => decide (lo ≤ i) && decide (i ≤ hi) | _ => false
/-- not too great to be reckoned with -/
def Bd (i : Int) : Prop := i.natAbs < 2 ^ 8000
theorem Bd.div {i : Int} (h0 : 0 < i) (h : Bd i) (j : Int) : CDivW j i := ⟨h0, Nat.lt_trans (PySem.Flt.log2_lt_of (by decide) h) (by decide)⟩
theorem Bd.mul {i j : Int} (h : Bd i) (h' : Bd j) : CMulX i j := mulx_ok h h' (by decide)
theorem Bd.le {i j : Int} (h : Bd j) (h0 : 0 ≤ i) (h1 : i ≤ j) : Bd i := Nat.lt_of_le_of_lt (by omega) h
theorem Bd.small {i : Int} (h0 : -(2 ^ 200) ≤ i) (h1 : i ≤ 2 ^ 200) : Bd i := by
  have e : i.natAbs ≤ 2 ^ 200 := by omega
  exact Nat.lt_of_le_of_lt e (Nat.pow_lt_pow_right (by decide) (by decide))
theorem cmul_of {i j : Int} {a b : Nat} (ha : i.natAbs < 2 ^ a) (hb : j.natAbs < 2 ^ b) (h : a + b ≤ 134217728) : CMulX i j := mulx_ok ha hb h
def g0 (a b : Int) : Int := (Int.gcd a b : Int)
/-- a / b in lowest terms -/
def spd (a b : Int) : D := .tup [.int (a / g0 a b), .int (b / g0 a b)]
/-- the distance of t to the nearest multiple of s -/
def near (s t : Int) : Int := if s - t % s < t % s then s - t % s else t % s
def foldD (h t b : Int) : D := spd (near (2 * h * b) t) b
def isSpD : D → Bool
  | .tup [.int a, .int b] => decide (0 ≤ a) && (decide (1 ≤ b) && decide (g0 a b = 1))
  | _ => false

def sp_is_integer (C : Cl) : PSp := fun ds M q _ => ar1 ds fun d => plain d = true ∧ q (.bl (isI d)) M
def sp_is_between (C : Cl) : PSp := fun ds M q _ => ar3 ds fun d a b => plain d = true ∧ asI a fun lo => asI b fun hi => q (.bl (btwD d lo hi)) M
def sp_divisor (C : Cl) : PSp := fun ds M q _ => ar2 ds fun a b => asI a fun x => asI b fun y => 0 ≤ x ∧ 0 ≤ y ∧ q (.int (g0 x y)) M
def sp_lowest (C : Cl) : PSp := fun ds M q _ => ar2 ds fun a b => asI a fun x => asI b fun y => 0 ≤ x ∧ 0 < y ∧ Bd y ∧ q (spd x y) M
def sp_is_speed (C : Cl) : PSp := fun ds M q _ => ar1 ds fun d => plain d = true ∧ parts d = true ∧ q (.bl (isSpD d)) M
def sp_need_speed (C : Cl) : PSp := fun ds M q e => ar1 ds fun d => plain d = true ∧ parts d = true ∧ if isSpD d = true then q .non M else e (.ref C.BadSpeed) [] M
def sp_is_half (C : Cl) : PSp := fun ds M q _ => ar1 ds fun d => plain d = true ∧ q (.bl (btwD d 1 1000)) M
def sp_folded (C : Cl) : PSp := fun ds M q _ => ar3 ds fun h t b => asI h fun h => asI t fun t => asI b fun b => (0 < h ∧ 0 ≤ t ∧ 0 < b) ∧ (h ≤ 2 ^ 1000 ∧ b ≤ 2 ^ 1000) ∧ q (foldD h t b) M
def seenD (h s : D) (k : D → Prop) : Prop := match h, s with | .int h, .tup [.int a, .int b] => b ≤ 2 ^ 1000 ∧ ∀ d, d = foldD h a b → k d | _, _ => False
def sp_seen (C : Cl) : PSp := fun ds M q e => ar2 ds fun h s => (plain h = true ∧ plain s = true ∧ parts s = true) ∧
  if btwD h 1 1000 = true then (if isSpD s = true then seenD h s fun d => q d M else e (.ref C.BadSpeed) [] M) else e (.ref C.BadHalf) [] M

/-! ## the readings -/
def rd_is_integer (C : Cl) : PTS := (dRet (dAndV (dB1 (fIsi "int") (dVar 0)) (dNotV (dB1 (fIsi "bool") (dVar 0)))))
def rd_is_between (C : Cl) : PTS := (dRet (dAndV (dCall (sp_is_integer C) [] (dCons (dVar 0) dNil)) (dChain fLe fLe (dVar 1) (dVar 0) (dVar 2))))
def rd_divisor (C : Cl) : PTS := (dSeq (dWhile (dTst (dOp fGt (dVar 1) (dC (.int 0)))) (dPar 0 1 (dCons (dVar 1) (dCons (dOp fMod (dVar 0) (dVar 1)) dNil)))) (dRet (dVar 0)))
def rd_is_speed (C : Cl) : PTS := (dSeq (dIfS (dOr (dNot (dTst (dB1 (fIsi "tuple") (dVar 0)))) (dOr (dTst (dOp fNe (dB1 fLen (dVar 0)) (dC (.int 2)))) (dNot (dTst (dB1 fAll (dL (dComp [1] (iT (dVar 0)) (gNm 1) dYes (dCall (sp_is_integer C) [] (dCons (dVar 1) dNil))))))))) (dRet (dC (.bl false))) dNext)
    (dRet (dAndV (dOp fGe (dOp fIx (dVar 0) (dC (.int 0))) (dC (.int 0))) (dAndV (dOp fGe (dOp fIx (dVar 0) (dC (.int 1))) (dC (.int 1))) (dOp fEq (dCall (sp_divisor C) [] (dCons (dOp fIx (dVar 0) (dC (.int 0))) (dCons (dOp fIx (dVar 0) (dC (.int 1))) dNil))) (dC (.int 1)))))))
def rd_lowest (C : Cl) : PTS := (dSeq (dSet 2 (dCall (sp_divisor C) [] (dCons (dVar 0) (dCons (dVar 1) dNil)))) (dRet (dTup (dCons (dOp fDiv (dVar 0) (dVar 2)) (dCons (dOp fDiv (dVar 1) (dVar 2)) dNil)))))

theorem sh_is_integer (C : Cl) : Shows (sp_is_integer C) 1 (rd_is_integer C) := by
  intro ds M q e h
  obtain ⟨d, rfl, hp, hq⟩ := ar1_of h
  cases d <;> first
    | exact ⟨M, MLe.refl M, hq⟩
    | exact absurd hp (by simp [plain, tyD])
theorem sh_is_between (C : Cl) : Shows (sp_is_between C) 3 (rd_is_between C) := by
  intro ds M q e h
  obtain ⟨d, a, b, rfl, hp, h⟩ := ar3_of h
  obtain ⟨lo, e1, h⟩ := asI_of h
  obtain ⟨hi, e2, hq⟩ := asI_of h
  subst e1 e2
  refine ⟨hp, ?_⟩
  cases d with
  | int i =>
    show if decide (lo ≤ i) = true then _ else _
    by_cases h1 : lo ≤ i
    · refine itT (decide_eq_true h1) ⟨M, MLe.refl M, ?_⟩
      have hq : q (.bl (decide (lo ≤ i) && decide (i ≤ hi))) M := hq
      rw [decide_eq_true h1] at hq
      exact hq
    · refine itF (decide_eq_false h1) ⟨M, MLe.refl M, ?_⟩
      have hq : q (.bl (decide (lo ≤ i) && decide (i ≤ hi))) M := hq
      rw [decide_eq_false h1] at hq
      exact hq
  | _ => first | exact ⟨M, MLe.refl M, hq⟩ | exact absurd hp (by simp [plain, tyD])
theorem g0_step (x y : Int) : g0 y (x % y) = g0 x y := by
  unfold g0
  have e : x % y = x + y * (-(x / y)) := by
    rw [Int.emod_def, Int.mul_neg]; omega
  rw [e, Int.gcd_add_mul_left_right, Int.gcd_comm]
theorem g0_zero {x : Int} (h : 0 ≤ x) : g0 x 0 = x := by
  unfold g0
  rw [Int.gcd_zero_right]
  omega
theorem sh_divisor (C : Cl) : Shows (sp_divisor C) 2 (rd_divisor C) := by
  intro ds M q e h
  obtain ⟨a, b, rfl, h⟩ := ar2_of h
  obtain ⟨x, e1, h⟩ := asI_of h
  obtain ⟨y, e2, h0, h1, hq⟩ := asI_of h
  subst e1 e2
  refine ⟨fun m ρ M' => ∃ x' y' : Int, ρ = [some (.val (.int x')), some (.val (.int y'))] ∧ M' = M ∧ 0 ≤ x' ∧ 0 ≤ y' ∧ g0 x' y' = g0 x y ∧ m = y'.toNat, ⟨_, x, y, rfl, rfl, h0, h1, rfl, rfl⟩, ?_⟩
  rintro m ρ M' ⟨x', y', rfl, rfl, g1, g2, g3, rfl⟩
  by_cases hy : 0 < y'
  · refine itT (decide_eq_true hy) ⟨hy, ?_⟩
    have e1 := Int.emod_nonneg x' (show y' ≠ 0 by omega)
    have e2 := Int.emod_lt_of_pos x' hy
    exact ⟨_, by omega, y', x' % y', rfl, rfl, g2, e1, by rw [g0_step]; exact g3, rfl⟩
  · refine itF (decide_eq_false hy) ⟨M', MLe.refl M', ?_⟩
    have e0 : y' = 0 := by omega
    rw [e0, g0_zero g1] at g3
    rw [g3]
    exact hq

theorem g0_pos {x y : Int} (h : 0 < y) : 0 < g0 x y := by
  have := Int.gcd_pos_iff (a := x) (b := y) |>.mpr (.inr (by omega))
  unfold g0
  omega
theorem g0_le {x y : Int} (h : 0 < y) : g0 x y ≤ y := by
  unfold g0
  exact Int.le_of_dvd h (Int.gcd_dvd_right ..)
theorem sh_lowest (C : Cl) : Shows (sp_lowest C) 3 (rd_lowest C) := by
  intro ds M q e h
  obtain ⟨a, b, rfl, h⟩ := ar2_of h
  obtain ⟨x, e1, h⟩ := asI_of h
  obtain ⟨y, e2, h0, h1, hb, hq⟩ := asI_of h
  subst e1 e2
  have gp := g0_pos (x := x) h1
  have gb := hb.le (Int.le_of_lt gp) (g0_le (x := x) h1)
  exact ⟨h0, Int.le_of_lt h1, gb.div gp x, gb.div gp y, by show 2 ≤ 1000000; decide, M, MLe.refl M, hq⟩
def rd_need_speed (C : Cl) : PTS := (dIfS (dNot (dTst (dCall (sp_is_speed C) [] (dCons (dVar 0) dNil)))) (dRaise (.ref C.BadSpeed)) dNext)
def rd_is_half (C : Cl) : PTS := (dRet (dCall (sp_is_between C) [] (dCons (dVar 0) (dCons (dC (.int 1)) (dCons (dC (.int 1000)) dNil)))))
def rd_folded (C : Cl) : PTS := (dSeq (dSet 3 (dOp fMod (dVar 1) (dOp fMul (dOp fMul (dC (.int 2)) (dVar 0)) (dVar 2))))
    (dRet (dCall (sp_lowest C) [] (dCons (dB1 fMin (dL (dLst (dCons (dVar 3) (dCons (dOp fSub (dOp fMul (dOp fMul (dC (.int 2)) (dVar 0)) (dVar 2)) (dVar 3)) dNil))))) (dCons (dVar 2) dNil)))))
def rd_seen (C : Cl) : PTS := (dSeq (dIfS (dNot (dTst (dCall (sp_is_half C) [] (dCons (dVar 0) dNil)))) (dRaise (.ref C.BadHalf)) dNext)
    (dSeq (dDrop (dCall (sp_need_speed C) [] (dCons (dVar 1) dNil)))
    (dRet (dCall (sp_folded C) [] (dCons (dVar 0) (dCons (dOp fIx (dVar 1) (dC (.int 0))) (dCons (dOp fIx (dVar 1) (dC (.int 1))) dNil)))))))
theorem eqD_int (i j : Int) : eqD (.int i) (.int j) = decide (i = j) := rfl
theorem sh_is_speed (C : Cl) : Shows (sp_is_speed C) 2 (rd_is_speed C) := by
  intro ds M q e h
  obtain ⟨d, rfl, hp, hpart, hq⟩ := ar1_of h
  cases d with
  | tup l =>
    rcases l with _ | ⟨a, _ | ⟨b, _ | ⟨c, r⟩⟩⟩
    · exact ⟨rfl, M, MLe.refl M, hq⟩
    · cases a <;> exact ⟨rfl, M, MLe.refl M, hq⟩
    · obtain ⟨ha, hb⟩ : plain a = true ∧ plain b = true := by
        have h2 : (plain a && (plain b && true)) = true := hpart
        simpa using h2
      refine ⟨rfl, rfl, ha, by show 0 < 1000000; decide, hb, by show 1 < 1000000; decide, ?_⟩
      cases a with
      | int x =>
        cases b with
        | int y =>
          refine ⟨_, rfl, ?_⟩
          have hq : q (.bl (decide (0 ≤ x) && (decide (1 ≤ y) && decide (g0 x y = 1)))) M := hq
          by_cases h0 : 0 ≤ x
          · refine itT (decide_eq_true h0) ⟨_, rfl, ?_⟩
            rw [decide_eq_true h0] at hq
            by_cases h1 : 1 ≤ y
            · refine itT (decide_eq_true h1) ⟨_, rfl, _, rfl, h0, by omega, rfl, M, MLe.refl M, ?_⟩
              rw [decide_eq_true h1] at hq
              exact hq
            · refine itF (decide_eq_false h1) ⟨M, MLe.refl M, ?_⟩
              rw [decide_eq_false h1] at hq
              exact hq
          · refine itF (decide_eq_false h0) ⟨M, MLe.refl M, ?_⟩
            rw [decide_eq_false h0] at hq
            exact hq
        | _ => exact ⟨M, MLe.refl M, hq⟩
      | _ => cases b <;> exact ⟨M, MLe.refl M, hq⟩
    · refine ⟨rfl, ?_⟩
      cases a <;> first | exact ⟨M, MLe.refl M, hq⟩ | (cases b <;> exact ⟨M, MLe.refl M, hq⟩)
  | _ => first | exact ⟨M, MLe.refl M, hq⟩ | exact absurd hp (by simp [plain, tyD])
theorem sh_need_speed (C : Cl) : Shows (sp_need_speed C) 1 (rd_need_speed C) := by
  intro ds M q e h
  obtain ⟨d, rfl, hp, hpart, hq⟩ := ar1_of h
  refine ⟨hp, hpart, ?_⟩
  cases c : isSpD d with
  | true =>
    rw [c] at hq
    exact ⟨M, MLe.refl M, hq⟩
  | false =>
    rw [c] at hq
    exact ⟨M, MLe.refl M, hq⟩
theorem sh_is_half (C : Cl) : Shows (sp_is_half C) 1 (rd_is_half C) := by
  intro ds M q e h
  obtain ⟨d, rfl, hp, hq⟩ := ar1_of h
  exact ⟨hp, M, MLe.refl M, hq⟩
theorem sh_folded (C : Cl) : Shows (sp_folded C) 4 (rd_folded C) := by
  intro ds M q e hh0
  obtain ⟨x1, x2, x3, rfl, hx⟩ := ar3_of hh0
  obtain ⟨h, e1, x⟩ := asI_of hx
  subst e1
  obtain ⟨t, e2, x⟩ := asI_of x
  obtain ⟨b, e3, ⟨h0, t0, b0⟩, ⟨hh, bb⟩, hq⟩ := asI_of x
  subst e2 e3
  have m0 : 0 < 2 * h := by omega
  have m1 : 0 < 2 * h * b := Int.mul_pos m0 b0
  have r0 := Int.emod_nonneg t (show 2 * h * b ≠ 0 by omega)
  have r1 := Int.emod_lt_of_pos t m1
  have q1 : CMulX 2 h := cmul_of (a := 2) (b := 1001) (by decide) (by
    have : h.natAbs ≤ 2 ^ 1000 := by omega
    exact Nat.lt_of_le_of_lt this (by decide)) (by decide)
  have q2 : CMulX (2 * h) b := cmul_of (a := 1002) (b := 1001) (by
    have : (2 * h).natAbs ≤ 2 * 2 ^ 1000 := by omega
    exact Nat.lt_of_le_of_lt this (by decide)) (by
    have : b.natAbs ≤ 2 ^ 1000 := by omega
    exact Nat.lt_of_le_of_lt this (by decide)) (by decide)
  refine ⟨q1, q2, m1, q1, q2, by show 2 ≤ 1000000; decide, ?_, b0, ?_, M, MLe.refl M, ?_⟩
  · show 0 ≤ near (2 * h * b) t
    unfold near
    split <;> omega
  · have : b.natAbs ≤ 2 ^ 1000 := by omega
    exact Nat.lt_of_le_of_lt this (by decide)
  · exact hq
theorem seenD_of {h s : D} {k : D → Prop} (x : seenD h s k) : ∃ i a b, h = .int i ∧ s = .tup [.int a, .int b] ∧ b ≤ 2 ^ 1000 ∧ ∀ d, d = foldD i a b → k d := by
  unfold seenD at x
  split at x
  · exact ⟨_, _, _, rfl, rfl, x⟩
  · exact x.elim
theorem sh_seen (C : Cl) : Shows (sp_seen C) 2 (rd_seen C) := by
  intro ds M q e hh0
  obtain ⟨h, s, rfl, ⟨p1, p2, p3⟩, hq⟩ := ar2_of hh0
  refine ⟨p1, ?_⟩
  cases c : btwD h 1 1000 with
  | false =>
    rw [c] at hq
    exact ⟨M, MLe.refl M, hq⟩
  | true =>
    rw [c] at hq
    refine ⟨p2, p3, ?_⟩
    cases c2 : isSpD s with
    | false =>
      rw [c2] at hq
      exact ⟨M, MLe.refl M, hq⟩
    | true =>
      rw [c2] at hq
      have hq : seenD h s fun d => q d M := hq
      obtain ⟨i, a, b, rfl, rfl, hb, hq⟩ := seenD_of hq
      have h1 : (decide (0 ≤ a) && (decide (1 ≤ b) && decide (g0 a b = 1))) = true := c2
      have h2 : (decide (1 ≤ i) && decide (i ≤ 1000)) = true := c
      simp only [Bool.and_eq_true, decide_eq_true_eq] at h1 h2
      have big : (1000 : Int) ≤ 2 ^ 1000 := by decide
      exact ⟨_, rfl, _, rfl, ⟨by omega, h1.1, by omega⟩, ⟨by omega, hb⟩, M, MLe.refl M, hq _ rfl⟩
end Px

set_option Elab.async false
set_option linter.all false
set_option maxRecDepth 100000
namespace Px
open PySem PySem.Spec PyProof.Rows L2

/-! # plain laws of speeds in lowest terms and of what is seen -/
theorem g0_mul {g : Int} (hg : 0 < g) (x y : Int) : g0 (g * x) (g * y) = g * g0 x y := by
  unfold g0
  rw [Int.gcd_mul_left]
  have e : (g.natAbs : Int) = g := by omega
  rw [Int.natCast_mul, e]
theorem spd_mul {g : Int} (hg : 0 < g) (x y : Int) : spd (g * x) (g * y) = spd x y := by
  unfold spd
  rw [g0_mul hg, Int.mul_ediv_mul_of_pos _ _ hg, Int.mul_ediv_mul_of_pos _ _ hg]
theorem g0_dvd_l (x y : Int) : g0 x y ∣ x := Int.gcd_dvd_left ..
theorem g0_dvd_r (x y : Int) : g0 x y ∣ y := Int.gcd_dvd_right ..
theorem emod_mul {g : Int} (hg : 0 < g) (t s : Int) : (g * t) % (g * s) = g * (t % s) := Int.mul_emod_mul_of_pos _ _ hg
theorem near_mul {g : Int} (hg : 0 < g) (s t : Int) : near (g * s) (g * t) = g * near s t := by
  unfold near
  rw [emod_mul hg, ← Int.mul_sub]
  by_cases c : s - t % s < t % s
  · rw [if_pos c, if_pos (Int.mul_lt_mul_of_pos_left c hg)]
  · rw [if_neg c, if_neg (fun z => c (Int.lt_of_mul_lt_mul_left z (Int.le_of_lt hg)))]
/-- what is seen of a fraction is seen of it in lowest terms -/
theorem fold_spd {h t b : Int} (hb : 0 < b) : foldD h (t / g0 t b) (b / g0 t b) = spd (near (2 * h * b) t) b := by
  have gp := g0_pos (x := t) hb
  obtain ⟨t', et⟩ := g0_dvd_l t b
  obtain ⟨b', eb⟩ := g0_dvd_r t b
  generalize g0 t b = g at *
  subst et eb
  rw [Int.mul_ediv_cancel_left _ (by omega), Int.mul_ediv_cancel_left _ (by omega)]
  unfold foldD
  rw [show 2 * h * (g * b') = g * (2 * h * b') by rw [Int.mul_left_comm], near_mul gp, spd_mul gp]
theorem spd_ok {t b : Int} (ht : 0 ≤ t) (hb : 0 < b) : isSpD (spd t b) = true := by
  have gp := g0_pos (x := t) hb
  obtain ⟨t', et⟩ := g0_dvd_l t b
  obtain ⟨b', eb⟩ := g0_dvd_r t b
  have h1 : g0 (g0 t b * t') (g0 t b * b') = g0 t b * 1 := by rw [← et, ← eb, Int.mul_one]
  rw [g0_mul gp] at h1
  have h2 : g0 t' b' = 1 := Int.eq_of_mul_eq_mul_left (by omega) h1
  show (decide (0 ≤ t / g0 t b) && (decide (1 ≤ b / g0 t b) && decide (g0 (t / g0 t b) (b / g0 t b) = 1))) = true
  have e1 : t / g0 t b = t' := by conv => { lhs; lhs; rw [et] }; exact Int.mul_ediv_cancel_left _ (by omega)
  have e2 : b / g0 t b = b' := by conv => { lhs; lhs; rw [eb] }; exact Int.mul_ediv_cancel_left _ (by omega)
  have p1 : 0 ≤ t / g0 t b := Int.ediv_nonneg ht (by omega)
  have p2 : 0 < b / g0 t b := by
    rw [e2]
    exact Int.pos_of_mul_pos_left (a := b') (b := g0 t b) (by rw [Int.mul_comm, ← eb]; exact hb) gp
  rw [decide_eq_true p1, decide_eq_true (show 1 ≤ b / g0 t b by omega), e1, e2, h2]
  rfl
theorem near_bounds {s : Int} (hs : 0 < s) (t : Int) : 0 ≤ near s t ∧ 2 * near s t ≤ s ∧ (near s t = t % s ∨ near s t = s - t % s) := by
  have a := Int.emod_nonneg t (show s ≠ 0 by omega)
  have b := Int.emod_lt_of_pos t hs
  unfold near
  split <;> omega
theorem near_add (s t k : Int) : near s (t + s * k) = near s t := by
  unfold near
  rw [Int.add_mul_emod_self_left]
theorem near_near {s : Int} (hs : 0 < s) (t : Int) : near s (near s t) = near s t := by
  obtain ⟨a, b, _⟩ := near_bounds hs t
  generalize near s t = m at *
  unfold near
  rw [Int.emod_eq_of_lt a (by omega), if_neg (by omega)]
theorem near_iff {s : Int} (hs : 0 < s) (x y : Int) : near s x = near s y ↔ (x - y) % s = 0 ∨ (x + y) % s = 0 := by
  have a := Int.emod_nonneg x (show s ≠ 0 by omega)
  have b := Int.emod_lt_of_pos x hs
  have c := Int.emod_nonneg y (show s ≠ 0 by omega)
  have d := Int.emod_lt_of_pos y hs
  have e1 : (x - y) % s = (x % s - y % s) % s := by rw [Int.sub_emod]
  have e2 : (x + y) % s = (x % s + y % s) % s := by rw [Int.add_emod]
  rw [e1, e2]
  unfold near
  generalize x % s = p at *
  generalize y % s = q at *
  have f1 : (p - q) % s = if p < q then p - q + s else p - q := by
    split
    · rw [show (p - q) % s = (p - q + s) % s by rw [Int.add_emod_right]]
      exact Int.emod_eq_of_lt (by omega) (by omega)
    · exact Int.emod_eq_of_lt (by omega) (by omega)
  have f2 : (p + q) % s = if p + q < s then p + q else p + q - s := by
    split
    · exact Int.emod_eq_of_lt (by omega) (by omega)
    · rw [show (p + q) % s = (p + q - s) % s by rw [Int.sub_emod_right]]
      exact Int.emod_eq_of_lt (by omega) (by omega)
  rw [f1, f2]
  split <;> split <;> split <;> split <;> omega
theorem near_refl2 {s u f : Int} (hs : 0 < s) (k : Int) (hu : 2 * u = s * k) : near s (if u - f < 0 then -(u - f) else u - f) = near s (u + f) := by
  rw [near_iff hs]
  split
  · refine .inl ?_
    rw [show -(u - f) - (u + f) = s * (-k) by rw [Int.mul_neg]; omega]
    exact Int.mul_emod_right ..
  · refine .inr ?_
    rw [show (u - f) + (u + f) = s * k by omega]
    exact Int.mul_emod_right ..
theorem spd_inj {x y b : Int} (hb : 0 < b) (h : spd x b = spd y b) : x = y := by
  unfold spd at h
  have h1 : x / g0 x b = y / g0 y b := by injection h with h; injection h with h _; injection h
  have h2 : b / g0 x b = b / g0 y b := by injection h with h; injection h with _ h; injection h with h _; injection h
  have gx := g0_pos (x := x) hb
  have gy := g0_pos (x := y) hb
  have ex := Int.mul_ediv_cancel' (g0_dvd_l x b)
  have ey := Int.mul_ediv_cancel' (g0_dvd_l y b)
  have ebx := Int.mul_ediv_cancel' (g0_dvd_r x b)
  have eby := Int.mul_ediv_cancel' (g0_dvd_r y b)
  have hg : g0 x b = g0 y b := by
    have q : g0 x b * (b / g0 x b) = g0 y b * (b / g0 x b) := by rw [ebx, h2, eby]
    have nz : b / g0 x b ≠ 0 := fun z => by rw [z, Int.mul_zero] at ebx; omega
    exact Int.eq_of_mul_eq_mul_right nz q
  rw [← ex, ← ey, h1, hg]
theorem eqD_spd {x y b : Int} (hb : 0 < b) : eqD (spd x b) (spd y b) = decide (x = y) := by
  have e : eqD (spd x b) (spd y b) = (decide (x / g0 x b = y / g0 y b) && (decide (b / g0 x b = b / g0 y b) && true)) := rfl
  rw [e]
  by_cases h : x = y
  · subst h
    simp
  · rw [decide_eq_false h]
    by_cases h1 : x / g0 x b = y / g0 y b
    · by_cases h2 : b / g0 x b = b / g0 y b
      · exact absurd (spd_inj hb (show spd x b = spd y b by unfold spd; rw [h1, h2])) h
      · rw [decide_eq_false h2]; simp
    · rw [decide_eq_false h1]; simp
theorem okD_spd {t b : Int} : okD 50 (spd t b) = true := rfl
theorem plain_spd (t b : Int) : plain (spd t b) = true ∧ parts (spd t b) = true := ⟨rfl, rfl⟩
/-! ### the law's fractions -/
def sp__law_fraction : PSp := fun ds M q _ => ar2 ds fun a b => asI a fun x => asI b fun y => (0 ≤ x ∧ 0 < y ∧ Bd y) ∧ q (spd x y) M
def rd__law_fraction : PTS := (dSeq (dPar 2 3 (dCons (dVar 0) (dCons (dVar 1) dNil)))
    (dSeq (dWhile (dTst (dOp fGt (dVar 3) (dC (.int 0)))) (dPar 2 3 (dCons (dVar 3) (dCons (dOp fMod (dVar 2) (dVar 3)) dNil))))
    (dRet (dTup (dCons (dOp fDiv (dVar 0) (dVar 2)) (dCons (dOp fDiv (dVar 1) (dVar 2)) dNil))))))
theorem sh__law_fraction : Shows sp__law_fraction 4 rd__law_fraction := by
  intro ds M q e h
  obtain ⟨a, b, rfl, h⟩ := ar2_of h
  obtain ⟨x, e1, h⟩ := asI_of h
  obtain ⟨y, e2, ⟨h0, h1, hb⟩, hq⟩ := asI_of h
  subst e1 e2
  have gp := g0_pos (x := x) h1
  have gb := hb.le (Int.le_of_lt gp) (g0_le (x := x) h1)
  refine ⟨fun m ρ M' => ∃ x' y' : Int, ρ = [some (.val (.int x)), some (.val (.int y)), some (.val (.int x')), some (.val (.int y'))] ∧ M' = M ∧ 0 ≤ x' ∧ 0 ≤ y' ∧ g0 x' y' = g0 x y ∧ m = y'.toNat, ⟨_, x, y, rfl, rfl, h0, by omega, rfl, rfl⟩, ?_⟩
  rintro m ρ M' ⟨x', y', rfl, rfl, g1, g2, g3, rfl⟩
  by_cases hy : 0 < y'
  · refine itT (decide_eq_true hy) ⟨hy, ?_⟩
    have e1 := Int.emod_nonneg x' (show y' ≠ 0 by omega)
    have e2 := Int.emod_lt_of_pos x' hy
    exact ⟨_, by omega, y', x' % y', rfl, rfl, g2, e1, by rw [g0_step]; exact g3, rfl⟩
  · have e0 : y' = 0 := by omega
    rw [e0, g0_zero g1] at g3
    subst g3
    exact itF (decide_eq_false hy) ⟨gb.div gp x, gb.div gp y, by show 2 ≤ 1000000; decide, M', MLe.refl M', hq⟩
end Px

set_option Elab.async false
set_option linter.all false
set_option maxRecDepth 100000
namespace Px
open PySem PySem.Spec PyProof.Rows L2
/-! # loops and comprehensions by plain lists -/
theorem compR_fm {gd : PTG} {tt : PTT} {te : PTE} {ρ : Rho} {M : Mm} {q : List D → Mm → Prop} (fm : D → Option D) : ∀ (ds acc : List D),
    (∀ d ∈ ds, ∀ (kt : D → Mm → Prop) (kf : Mm → Prop), (match fm d with | some y => kt y M | none => kf M) → gd d ρ fun ρ' => tt w0 ρ' M fun b M1 => if b = true then te w0 ρ' M1 kt else kf M1) →
    acc.length + ds.length ≤ 1000000 → q (acc ++ ds.filterMap fm) M → compR gd tt te ρ ds acc M q
  | [], acc, _, _, h => by
    have h : q (acc ++ []) M := h
    rw [List.append_nil] at h
    exact h
  | d :: r, acc, hb, hl, h => by
    have hl : acc.length + (r.length + 1) ≤ 1000000 := hl
    refine hb d List.mem_cons_self _ _ ?_
    rw [List.filterMap_cons] at h
    cases e : fm d with
    | some y =>
      rw [e] at h
      refine ⟨by omega, compR_fm fm r (acc ++ [y]) (fun d' h' => hb d' (List.mem_cons_of_mem _ h')) (by rw [List.length_append, List.length_singleton]; omega) ?_⟩
      rw [List.append_assoc]
      exact h
    | none =>
      rw [e] at h
      exact compR_fm fm r acc (fun d' h' => hb d' (List.mem_cons_of_mem _ h')) (by omega) h
/-- every item is taken -/
theorem compR_map {gd : PTG} {tt : PTT} {te : PTE} {ρ : Rho} {M : Mm} {q : List D → Mm → Prop} (f : D → D) (ds : List D)
    (hb : ∀ d ∈ ds, ∀ (kt : D → Mm → Prop) (kf : Mm → Prop), kt (f d) M → gd d ρ fun ρ' => tt w0 ρ' M fun b M1 => if b = true then te w0 ρ' M1 kt else kf M1) (hl : ds.length ≤ 1000000)
    (h : q (ds.map f) M) : compR gd tt te ρ ds [] M q := by
  refine compR_fm (fun d => some (f d)) ds [] (fun d hd kt kf k => hb d hd kt kf k) (by simpa using hl) ?_
  rw [List.nil_append, show ds.filterMap (fun d => some (f d)) = ds.map f by rw [← List.filterMap_eq_map]; rfl]
  exact h
/-- some items are taken as they are -/
theorem compR_flt {gd : PTG} {tt : PTT} {te : PTE} {ρ : Rho} {M : Mm} {q : List D → Mm → Prop} (p : D → Bool) (ds : List D)
    (hb : ∀ d ∈ ds, ∀ (kt : D → Mm → Prop) (kf : Mm → Prop), (if p d = true then kt d M else kf M) → gd d ρ fun ρ' => tt w0 ρ' M fun b M1 => if b = true then te w0 ρ' M1 kt else kf M1) (hl : ds.length ≤ 1000000)
    (h : q (ds.filter p) M) : compR gd tt te ρ ds [] M q := by
  refine compR_fm (fun d => if p d = true then some d else none) ds [] (fun d hd kt kf k => hb d hd kt kf ?_) (by simpa using hl) ?_
  · by_cases c : p d = true
    · rw [if_pos c] at k ⊢; exact k
    · rw [if_neg c] at k ⊢; exact k
  · have e : ds.filterMap (fun d => if p d = true then some d else none) = ds.filter p := by
      clear h hl hb
      induction ds with
      | nil => rfl
      | cons d r ih => rw [List.filterMap_cons, List.filter_cons, ih]; by_cases c : p d = true <;> simp [c]
    rw [List.nil_append, e]
    exact h
/-- a loop by what is left of its items -/
theorem forR_ind {gd : PTG} {pb : PTS} {w : PWi} {P : PEnds} (I : List D → Rho → Mm → Prop) (hb : ∀ d r ρ M, I (d :: r) ρ M → ∀ F : Rho → Mm → Prop, (∀ ρ' M', I r ρ' M' → F ρ' M') → gd d ρ fun ρ' => pb w { P with nx := F, ct := F, bk := P.nx } ρ' M)
    (he : ∀ ρ M, I [] ρ M → P.nx ρ M) : ∀ (ds : List D) (ρ : Rho) (M : Mm), I ds ρ M → forR gd pb w ds P ρ M
  | [], ρ, M, h => he ρ M h
  | d :: r, ρ, M, h => hb d r ρ M h _ fun ρ' M' h' => forR_ind I hb he r ρ' M' h'
theorem forR_ix {gd : PTG} {pb : PTS} {w : PWi} {P : PEnds} (I : Nat → Rho → Mm → Prop) : ∀ (ds : List D) (k : Nat), (∀ i d, ds[i]? = some d → ∀ F : Rho → Mm → Prop, (∀ ρ M, I (k + i + 1) ρ M → F ρ M) → ∀ ρ M, I (k + i) ρ M → gd d ρ fun ρ' => pb w { P with nx := F, ct := F, bk := P.nx } ρ' M) →
    (∀ ρ M, I (k + ds.length) ρ M → P.nx ρ M) → ∀ ρ M, I k ρ M → forR gd pb w ds P ρ M
  | [], k, _, he, ρ, M, h => he ρ M h
  | d :: ds, k, hb, he, ρ, M, h => hb 0 d rfl _ (fun ρ' M' h' => forR_ix I ds (k + 1) (fun i d' hd' F hF ρ2 M2 h2 => hb (i + 1) d' hd' F (fun ρ3 M3 h3 => hF ρ3 M3 (by
      have e : k + 1 + i + 1 = k + (i + 1) + 1 := by omega
      rw [e]; exact h3)) ρ2 M2 (by
      have e : k + (i + 1) = k + 1 + i := by omega
      rw [e]; exact h2)) (fun ρ2 M2 h2 => he ρ2 M2 (by
      have e : k + (d :: ds).length = k + 1 + ds.length := by rw [List.length_cons]; omega
      rw [e]; exact h2)) ρ' M' h') ρ M h
/-- a fraction, its value told by an equation -/
def sp_frac2 : PSp := fun ds M q _ => ar2 ds fun a b => asI a fun x => asI b fun y => (0 ≤ x ∧ 0 < y ∧ Bd y) ∧ ∀ d, d = spd x y → q d M
theorem sh_frac2 : Shows sp_frac2 4 rd__law_fraction := by
  intro ds M q e h
  obtain ⟨a, b, rfl, h⟩ := ar2_of h
  obtain ⟨x, e1, h⟩ := asI_of h
  obtain ⟨y, e2, hc, hq⟩ := asI_of h
  subst e1 e2
  exact sh__law_fraction _ M q e ⟨hc, hq _ rfl⟩

/-! # sizes -/
/-- below 2 ^ n -/
class SzB (n : outParam Nat) (i : Int) : Prop where
  h : i.natAbs < 2 ^ n
theorem SzB.of {n : Nat} {i : Int} (h0 : -(2 ^ n) < i) (h1 : i < 2 ^ n) : SzB n i := ⟨by
  have e : ((2 ^ n : Nat) : Int) = 2 ^ n := by rw [Int.natCast_pow]; rfl
  omega⟩
theorem SzB.mulX {i j : Int} {m n : Nat} (a : SzB m i) (b : SzB n j) (h : m + n ≤ 134217728 := by decide) : CMulX i j := cmul_of a.h b.h h
theorem SzB.bd {i : Int} {m : Nat} (a : SzB m i) (h : m ≤ 8000 := by decide) : Bd i := Nat.lt_of_lt_of_le a.h (Nat.pow_le_pow_right (by decide) h)
theorem SzB.divX {i j : Int} {m : Nat} (h0 : 0 < i) (a : SzB m i) (h : m ≤ 8000 := by decide) : CDivW j i := (a.bd h).div h0 j
theorem SzB.log {i : Int} {m : Nat} (a : SzB m i) (h : m ≤ 8000 := by decide) : i.natAbs.log2 < 9000 := Nat.lt_trans (PySem.Flt.log2_lt_of (by decide) (a.bd h)) (by decide)
theorem SzB.mono {i : Int} {m n : Nat} (a : SzB m i) (h : m ≤ n) : SzB n i := ⟨Nat.lt_of_lt_of_le a.h (Nat.pow_le_pow_right (by decide) h)⟩
theorem SzB.le {i j : Int} {m : Nat} (a : SzB m j) (h : i.natAbs ≤ j.natAbs) : SzB m i := ⟨Nat.lt_of_le_of_lt h a.h⟩
instance SzB.mul {i j : Int} {m n : Nat} [a : SzB m i] [b : SzB n j] : SzB (m + n) (i * j) := ⟨by
  rw [Int.natAbs_mul, Nat.pow_add]
  exact Nat.mul_lt_mul'' a.h b.h⟩
theorem pow_max {x y m n : Nat} (h : x < 2 ^ m) (h' : y < 2 ^ n) : x + y < 2 ^ (max m n + 1) := by
  have h1 := Nat.pow_le_pow_right (show 0 < 2 by decide) (Nat.le_max_left m n)
  have h2 := Nat.pow_le_pow_right (show 0 < 2 by decide) (Nat.le_max_right m n)
  rw [Nat.pow_succ]
  omega
instance SzB.add {i j : Int} {m n : Nat} [a : SzB m i] [b : SzB n j] : SzB (max m n + 1) (i + j) := ⟨Nat.lt_of_le_of_lt (Int.natAbs_add_le i j) (pow_max a.h b.h)⟩
instance SzB.sub {i j : Int} {m n : Nat} [a : SzB m i] [b : SzB n j] : SzB (max m n + 1) (i - j) := ⟨Nat.lt_of_le_of_lt (by omega) (pow_max a.h b.h)⟩
instance SzB.neg {i : Int} {m : Nat} [a : SzB m i] : SzB m (-i) := ⟨by rw [Int.natAbs_neg]; exact a.h⟩
instance SzB.div {i j : Int} {m : Nat} [a : SzB m i] : SzB (m + 1) (i / j) := ⟨by
  have h := a.h
  have e : (i / j).natAbs ≤ i.natAbs + 1 := by
    have := Int.natAbs_ediv_le_natAbs i j
    omega
  rw [Nat.pow_succ]
  have : 0 < 2 ^ m := Nat.pow_pos (by decide)
  omega⟩
instance SzB.mod {i j : Int} {m n : Nat} [a : SzB m i] [b : SzB n j] : SzB (max m n + 1) (i % j) := ⟨by
  refine Nat.lt_of_le_of_lt ?_ (pow_max a.h b.h)
  by_cases c : j = 0
  · subst c
    rw [Int.emod_zero]
    omega
  · have h1 := Int.emod_nonneg i c
    have h2 := Int.emod_lt i c
    omega⟩
instance SzB.lit {k : Nat} : SzB (Nat.log2 k + 1) (no_index (OfNat.ofNat k) : Int) := ⟨by
  show (k : Int).natAbs < 2 ^ (Nat.log2 k + 1)
  rw [Int.natAbs_natCast]
  exact Nat.lt_log2_self⟩
instance SzB.pow {i : Int} {m k : Nat} [a : SzB m i] : SzB (m * k + 1) (i ^ k) := ⟨by
  rw [Int.natAbs_pow, Nat.pow_succ, Nat.pow_mul]
  have h1 : i.natAbs ^ k ≤ (2 ^ m) ^ k := Nat.pow_le_pow_left (Nat.le_of_lt a.h) k
  have h2 : 0 < (2 ^ m) ^ k := Nat.pow_pos (Nat.pow_pos (by decide))
  omega⟩
instance SzB.ite {p : Prop} [Decidable p] {i j : Int} {m n : Nat} [a : SzB m i] [b : SzB n j] : SzB (max m n) (if p then i else j) := ⟨by
  split
  · exact Nat.lt_of_lt_of_le a.h (Nat.pow_le_pow_right (by decide) (Nat.le_max_left m n))
  · exact Nat.lt_of_lt_of_le b.h (Nat.pow_le_pow_right (by decide) (Nat.le_max_right m n))⟩
end Px

set_option Elab.async false
set_option linter.all false
set_option maxRecDepth 100000
namespace Px
open PySem PySem.Spec PyProof.Rows L2
/-! # what repr takes -/
def Szb (i : Int) : Prop := -(10 ^ 60) ≤ i ∧ i ≤ 10 ^ 60
/-- data so deep and so heavy at most, whose ints are not too long -/
structure Shw (n w : Nat) (d : D) : Prop where
  ok : okD n d = true
  sh : PyData.showable (toPy d) = true
  lv : PyData.leavesShort 70 (toPy d) = true
  wt : PyData.weight (toPy d) ≤ w
structure ShwL (n w : Nat) (l : List D) : Prop where
  ok : l.all (okD n) = true
  sh : PyData.showableAll (toPyL l) = true
  lv : PyData.leavesShortAll 70 (toPyL l) = true
  wt : PyData.weightAll (toPyL l) ≤ w
theorem Shw.int {n : Nat} {i : Int} (h : Szb i) : Shw n 211 (.int i) := by
  have a : i.natAbs < 10 ^ 61 := by have := h.1; have := h.2; omega
  have a2 : i.natAbs < 2 ^ 210 := Nat.lt_of_le_of_lt (show i.natAbs ≤ 10 ^ 60 by have := h.1; have := h.2; omega) (by decide)
  refine ⟨by cases n <;> rfl, ?_, ?_, ?_⟩
  · show PyData.showable (.int i) = true
    simp only [PyData.showable]
    exact decide_eq_true (PySem.Flt.log2_lt_of (by decide) (Nat.lt_of_lt_of_le a2 (Nat.pow_le_pow_right (by decide) (by decide))))
  · have := int_text_length_le10 (a := i) (k := 61) (by decide) a
    show decide _ = true
    refine decide_eq_true ?_
    simp only [PyData.shown]
    rw [PySem.ofString_length]
    omega
  · have := PySem.Flt.log2_lt_of (by decide) a2
    show PyData.weight (.int i) ≤ 211
    simp only [PyData.weight]
    split <;> omega
theorem Shw.bl {n : Nat} {b : Bool} : Shw n 0 (.bl b) := ⟨by cases n <;> rfl, rfl, rfl, by show PyData.weight (.bool b) ≤ 0; simp [PyData.weight]⟩
theorem Shw.non {n : Nat} : Shw n 0 .non := ⟨by cases n <;> rfl, rfl, rfl, by show PyData.weight .none ≤ 0; simp [PyData.weight]⟩
theorem Shw.str {n w : Nat} {s : Str} (h1 : PyData.strOk s = true := by decide +kernel) (h2 : PyData.leavesShort 70 (.str s) = true := by decide +kernel) (h3 : PyData.weight (.str s) ≤ w := by decide +kernel) : Shw n w (.str s) := ⟨by cases n <;> exact h1, rfl, h2, h3⟩
theorem ShwL.nil {n : Nat} : ShwL n 0 [] := ⟨rfl, rfl, rfl, by simp [toPyL, PyData.weightAll]⟩
theorem ShwL.cons {n a b : Nat} {d : D} {l : List D} (h : Shw n a d) (k : ShwL n b l) : ShwL n (a + 1 + b) (d :: l) := by
  refine ⟨by rw [List.all_cons, h.ok, k.ok]; rfl, ?_, ?_, ?_⟩
  · show (PyData.showable (toPy d) && PyData.showableAll (toPyL l)) = true
    rw [h.sh, k.sh]; rfl
  · show (PyData.leavesShort 70 (toPy d) && PyData.leavesShortAll 70 (toPyL l)) = true
    rw [h.lv, k.lv]; rfl
  · show PyData.weight (toPy d) + 1 + PyData.weightAll (toPyL l) ≤ _
    have := h.wt; have := k.wt; omega
theorem ShwL.all {n w : Nat} : ∀ {l : List D}, (∀ d ∈ l, Shw n w d) → ShwL n ((w + 1) * l.length) l
  | [], _ => .nil
  | d :: r, h => by
    have := ShwL.cons (h d List.mem_cons_self) (ShwL.all fun x q => h x (List.mem_cons_of_mem _ q))
    have e : (w + 1) * (d :: r).length = w + 1 + (w + 1) * r.length := by rw [List.length_cons, Nat.mul_succ]; omega
    rw [e]; exact this
theorem Shw.tup {n w : Nat} {l : List D} (h : ShwL n w l) : Shw (n + 1) w (.tup l) := ⟨h.ok, h.sh, h.lv, h.wt⟩
theorem Shw.lst {n w : Nat} {l : List D} (h : ShwL n w l) : Shw (n + 1) w (.lst l) := ⟨h.ok, h.sh, h.lv, h.wt⟩
theorem okD_mono : ∀ (n m : Nat) (d : D), n ≤ m → okD n d = true → okD m d = true := by
  intro n
  induction n with
  | zero => intro m d _ h; cases d <;> first | (cases m <;> exact h) | (cases h)
  | succ n ih =>
    intro m d hm h
    cases m with
    | zero => omega
    | succ m =>
      cases d with
      | tup l =>
        have h : l.all (okD n) = true := h
        show l.all (okD m) = true
        rw [List.all_eq_true] at h ⊢
        exact fun x hx => ih m x (by omega) (h x hx)
      | lst l =>
        have h : l.all (okD n) = true := h
        show l.all (okD m) = true
        rw [List.all_eq_true] at h ⊢
        exact fun x hx => ih m x (by omega) (h x hx)
      | _ => first | exact h | cases h
theorem Shw.ok50 {n w : Nat} {d : D} (h : Shw n w d) (hn : n ≤ 50 := by decide) : okD 50 d = true := okD_mono n 50 d hn h.ok
theorem Shw.show {n w : Nat} {d : D} (h : Shw n w d) (hw : w ≤ 200000) : showOk (toPy d) := by
  refine ⟨h.sh, ?_⟩
  have h1 := PyData.shown_le 70 (by decide) _ h.lv
  have h2 := Nat.mul_le_mul_left (70 + 2) (Nat.le_trans h.wt hw)
  omega
theorem Shw.ints {n : Nat} {ns : List Int} (h : ∀ i ∈ ns, Szb i) : ShwL n (212 * ns.length) (ns.map .int) := by
  have := ShwL.all (n := n) (w := 211) (l := ns.map .int) fun d hd => by
    obtain ⟨i, hi, rfl⟩ := List.mem_map.mp hd
    exact .int (h i hi)
  rw [List.length_map] at this
  exact this
end Px

set_option Elab.async false
set_option linter.all false
set_option maxRecDepth 100000
namespace Px
open PySem PySem.Spec PyProof.Rows L2
/-! # dicts with keys that are data -/
mutual
theorem hash_nt (w w' : World) : ∀ k : NestedKey, ntK k = true → k.hash w = k.hash w'
  | .none, _ => rfl
  | .num _, _ => rfl
  | .text _, h => by cases h
  | .tup ks, h => by
    have e := hashes_nt w w' ks h
    show reduceHash (Builtin.Tuple.tupleHashOf (NestedKey.hashes w ks)) = reduceHash (Builtin.Tuple.tupleHashOf (NestedKey.hashes w' ks))
    rw [e]
theorem hashes_nt (w w' : World) : ∀ ks : List NestedKey, ntKL ks = true → NestedKey.hashes w ks = NestedKey.hashes w' ks
  | [], _ => rfl
  | k :: r, h => by
    have h : (ntK k && ntKL r) = true := h
    rw [Bool.and_eq_true] at h
    show k.hash w :: NestedKey.hashes w r = k.hash w' :: NestedKey.hashes w' r
    rw [hash_nt w w' k h.1, hashes_nt w w' r h.2]
end
mutual
theorem nt_nk : ∀ (d : D) (k : NestedKey), nkOf d = some k → ntK k = true
  | .non, _, h => by cases h; rfl
  | .bl _, _, h => by cases h; rfl
  | .int _, _, h => by cases h; rfl
  | .tup l, k, h => by
    have h : (nkOfL l).map NestedKey.tup = some k := h
    cases e : nkOfL l with
    | none => rw [e] at h; cases h
    | some ks => rw [e] at h; cases h; exact nt_nkL l ks e
  | .str _, _, h => by cases h
  | .lst _, _, h => by cases h
  | .dic _ _, _, h => by cases h
  | .obj _ _ _, _, h => by cases h
  | .raw _, _, h => by cases h
  | .scr _, _, h => by cases h
  | .clo _ _ _ _ _, _, h => by cases h
  | .exv _ _ _ _ _, _, h => by cases h
theorem nt_nkL : ∀ (l : List D) (ks : List NestedKey), nkOfL l = some ks → ntKL ks = true
  | [], _, h => by cases h; rfl
  | d :: r, ks, h => by
    have h : (match nkOf d, nkOfL r with | some a, some b => some (a :: b) | _, _ => none) = some ks := h
    cases e1 : nkOf d with
    | none => rw [e1] at h; cases h
    | some a =>
      cases e2 : nkOfL r with
      | none => rw [e1, e2] at h; cases h
      | some b =>
        rw [e1, e2] at h
        cases h
        show (ntK a && ntKL b) = true
        rw [nt_nk d a e1, nt_nkL r b e2]; rfl
end
section
variable {X : Cx} {pins : List (Addr × Obj)} {σ : L2.St} {H F : Hp} {s : Shared}
mutual
/-- data that is told is the key at its place -/
theorem nested_is (I : Inv X pins σ H s) (sm : Same F H) : ∀ (d : D) (k : NestedKey) (v : V) (u : Value), nkOf d = some k → Rp X.K F d v → RelV v u → NestedIs s.heap k u
  | .non, k, v, u, h, r, rv => by
    cases h
    cases (show v = .non from r)
    cases (show u = .none from rv)
    exact .none
  | .bl b, k, v, u, h, r, rv => by
    cases h
    cases (show v = .bl b from r)
    cases (show u = .bool b from rv)
    exact .bool rfl
  | .int i, k, v, u, h, r, rv => by
    cases h
    cases (show v = .int i from r)
    obtain ⟨t, rfl⟩ := (show ∃ t, u = .int i t from rv)
    exact .int i t
  | .tup l, k, v, u, h, r, rv => by
    have h : (nkOfL l).map NestedKey.tup = some k := h
    cases e : nkOfL l with
    | none => rw [e] at h; cases h
    | some ks =>
      rw [e] at h
      cases h
      obtain ⟨a, xs, rfl, hs, rl⟩ := r
      cases (show u = .ref a from rv)
      obtain ⟨its, rvs, ⟨o, h1, h2, n, h3⟩, _⟩ := I.tuple (same_t sm hs)
      refine .tup h1 h2 h3 ?_
      exact nested_all I sm l ks xs its e rl rvs
  | .str _, _, _, _, h, _, _ => by cases h
  | .lst _, _, _, _, h, _, _ => by cases h
  | .dic _ _, _, _, _, h, _, _ => by cases h
  | .obj _ _ _, _, _, _, h, _, _ => by cases h
  | .raw _, _, _, _, h, _, _ => by cases h
  | .scr _, _, _, _, h, _, _ => by cases h
  | .clo _ _ _ _ _, _, _, _, h, _, _ => by cases h
  | .exv _ _ _ _ _, _, _, _, h, _, _ => by cases h
theorem nested_all (I : Inv X pins σ H s) (sm : Same F H) : ∀ (l : List D) (ks : List NestedKey) (xs : List V) (us : List Value), nkOfL l = some ks → RpL X.K F l xs → Vals xs us → NestedAll s.heap ks us
  | [], _, xs, us, h, r, rv => by
    cases h
    cases (show xs = [] from r)
    cases rv
    exact .nil
  | d :: l, ks, xs, us, h, r, rv => by
    have h : (match nkOf d, nkOfL l with | some a, some b => some (a :: b) | _, _ => none) = some ks := h
    obtain ⟨x, r', rfl, r1, r2⟩ := r
    cases rv with
    | cons q1 q2 =>
      cases e1 : nkOf d with
      | none => rw [e1] at h; cases h
      | some a =>
        cases e2 : nkOfL l with
        | none => rw [e1, e2] at h; cases h
        | some b =>
          rw [e1, e2] at h
          cases h
          exact .cons (nested_is I sm d a x _ e1 r1 q1) (nested_all I sm l b _ _ e2 r2 q2)
end
/-- the dict that is told, as the library has it -/
theorem dk_is (I : Inv X pins σ H s) (sm : Same F H) {p : Addr} {kvs : List (D × D)} {xs : KEnts} (e : H p = some (dkO p xs)) (r : DRel X.K F kvs xs) :
    (p == sysModules) = false ∧ s.heap.DictOfH (nestedKind X.prog X.w) p xs := by
  obtain ⟨⟨h1, h2, h3, o, es, ep, h4, h5, h6, h7⟩, _, _⟩ := (show ObjOk X.prog X.w H s.heap p (dkO p xs) from I.hok p _ e)
  refine ⟨h1, o, es, ep, h4, h5, h6, h7 X.w, ?_, h3⟩
  have all : ∀ {kvs : List (D × D)} {xs : KEnts}, DRel X.K F kvs xs → ∀ x ∈ xs, (nestedKind X.prog X.w).is s.heap x.1 x.2.1 := by
    intro kvs
    induction kvs with
    | nil => intro xs r x hx; rw [show xs = [] from r] at hx; cases hx
    | cons p r ih =>
      intro xs q x hx
      obtain ⟨y, ys, v, rfl, e2, e3, e4, e5, e6, e7⟩ := q
      rcases List.mem_cons.mp hx with rfl | hx
      · exact ⟨nested_is I sm p.1 _ _ _ e2 e4 rfl, e3⟩
      · exact ih e7 x hx
  exact all r
theorem dk_ok {P : Program} {w : World} {H : Hp} {h : Heap} {p : Addr} {xs : KEnts} (hx : dkP p xs h) : ObjOk P w H h p (dkO p xs) := by
  obtain ⟨h1, h2, h3, o, es, ep, h4, h5⟩ := id hx
  refine ⟨hx, ⟨o, h4⟩, ?_⟩
  rintro g1 g2 ⟨h1, h2, h3, o, es, ep, h4, h5⟩ k
  exact ⟨h1, h2, h3, o, es, ep, k _ h4, h5⟩
end
/-! ## what is known of such a dict -/
def sameK (k : NestedKey) (p : D × D) : Bool := decide (nkOf p.1 = some k)
def hasK (kvs : List (D × D)) (k : NestedKey) : Bool := kvs.any (sameK k)
def lookK (kvs : List (D × D)) (k : NestedKey) : Option D := (kvs.find? (sameK k)).map (·.2)
def putD (kvs : List (D × D)) (d v : D) (k : NestedKey) : List (D × D) := if hasK kvs k = true then kvs.map fun p => if sameK k p = true then (p.1, v) else p else kvs ++ [(d, v)]
theorem putD_len (kvs : List (D × D)) (d v : D) (k : NestedKey) : (putD kvs d v k).length ≤ kvs.length + 1 := by
  unfold putD; split <;> simp
section
variable {K : PySem.W.Frag} {F : Hp}
theorem drel_len : ∀ {kvs : List (D × D)} {xs : KEnts}, DRel K F kvs xs → kvs.length = xs.length
  | [], xs, h => by rw [show xs = [] from h]; rfl
  | p :: r, _, ⟨x, ys, v, e, _, _, _, _, _, h⟩ => by rw [e, List.length_cons, List.length_cons, drel_len h]
theorem drel_key : ∀ {kvs : List (D × D)} {xs : KEnts} (k : NestedKey), DRel K F kvs xs → (atKey xs k).isSome = hasK kvs k
  | [], xs, k, h => by rw [show xs = [] from h]; rfl
  | p :: r, _, k, ⟨x, ys, v, e, e1, _, _, _, _, h⟩ => by
    have ih := drel_key k h
    unfold atKey at ih ⊢
    unfold hasK at ih ⊢
    rw [e, List.find?_cons, List.any_cons, ← ih]
    unfold sameK
    rw [e1]
    by_cases c : x.1 = k
    · simp [c]
    · simp [c]
theorem drel_look : ∀ {kvs : List (D × D)} {xs : KEnts} (k : NestedKey) {d : D}, DRel K F kvs xs → lookK kvs k = some d → ∃ y, atKey xs k = some y ∧ ∃ v, Rp K F d v ∧ RelV v y.2
  | [], xs, k, d, h, e => by cases e
  | p :: r, _, k, d, ⟨x, ys, v, e, e1, _, _, e4, e5, h⟩, hd => by
    unfold lookK at hd
    unfold atKey
    rw [e, List.find?_cons]
    rw [List.find?_cons] at hd
    have sk : sameK k p = decide (x.1 = k) := by unfold sameK; rw [e1]; simp
    rw [sk] at hd
    by_cases c : x.1 = k
    · rw [decide_eq_true c] at hd ⊢
      cases hd
      exact ⟨_, rfl, v, e4, e5⟩
    · rw [decide_eq_false c] at hd ⊢
      have := drel_look (kvs := r) (xs := ys) k (d := d) h hd
      exact this
theorem drel_app : ∀ {kvs ls : List (D × D)} {xs ys : KEnts}, DRel K F kvs xs → DRel K F ls ys → DRel K F (kvs ++ ls) (xs ++ ys)
  | [], _, _, _, h, q => by rw [show _ = [] from h]; exact q
  | p :: r, _, _, _, ⟨x, zs, v, e, e1, e2, e3, e4, e5, h⟩, q => by rw [e]; exact ⟨x, _, v, rfl, e1, e2, e3, e4, e5, drel_app h q⟩
theorem drel_set {v : D} {k : NestedKey} {w : V} {u : Value} (hv : Rp K F v w) (hu : RelV w u) : ∀ {kvs : List (D × D)} {xs : KEnts}, DRel K F kvs xs → DRel K F (kvs.map fun p => if sameK k p = true then (p.1, v) else p) (xs.map (putAt k u))
  | [], _, h => by rw [show _ = [] from h]; exact rfl
  | p :: r, _, ⟨x, zs, w', e, e1, e2, e3, e4, e5, h⟩ => by
    have sk : sameK k p = decide (x.1 = k) := by unfold sameK; rw [e1]; simp
    rw [e, List.map_cons, List.map_cons, sk]
    unfold putAt
    by_cases c : x.1 = k
    · rw [if_pos c, decide_eq_true c]
      exact ⟨_, _, w, rfl, e1, e2, e3, hv, hu, drel_set hv hu h⟩
    · rw [if_neg c, decide_eq_false c]
      exact ⟨_, _, w', rfl, e1, e2, e3, e4, e5, drel_set hv hu h⟩
theorem drel_put {kvs : List (D × D)} {xs : KEnts} {d v : D} {k : NestedKey} {a : Addr} {w : V} {u : Value} (h : DRel K F kvs xs) (hk : nkOf d = some k) (hd : k.depth ≤ 8) (rd : Rp K F d (.ref a)) (hv : Rp K F v w) (hu : RelV w u) : DRel K F (putD kvs d v k) (storedH xs k a u) := by
  unfold putD storedH
  rw [drel_key k h]
  cases hasK kvs k with
  | true => rw [if_pos rfl, if_pos rfl]; exact drel_set hv hu h
  | false => rw [if_neg (by simp), if_neg (by simp)]; exact drel_app h ⟨_, _, w, rfl, hk, hd, rd, hv, hu, rfl⟩
end
/-- such a dict, at the address that the data names -/
def asDct (d : D) (M : Mm) (f : Addr → List (D × D) → Prop) : Prop := match d with
  | .raw (.ref a) => match M a with | some (.dct kvs) => f a kvs | _ => False
  | _ => False
theorem asDct_of {d : D} {M : Mm} {f : Addr → List (D × D) → Prop} (h : asDct d M f) : ∃ a kvs, d = .raw (.ref a) ∧ M a = some (.dct kvs) ∧ f a kvs := by
  unfold asDct at h
  split at h
  · rename_i a
    split at h
    · rename_i kvs e
      exact ⟨a, kvs, rfl, e, h⟩
    · exact h.elim
  · exact h.elim
/-- a key that is a tuple of such -/
def asKey (d : D) (f : NestedKey → Prop) : Prop := match d with
  | .tup l => match nkOf (.tup l) with | some k => k.depth ≤ 8 ∧ f k | none => False
  | _ => False
theorem asKey_of {d : D} {f : NestedKey → Prop} (h : asKey d f) : ∃ l k, d = .tup l ∧ nkOf d = some k ∧ k.depth ≤ 8 ∧ f k := by
  unfold asKey at h
  split at h
  · rename_i l
    split at h
    · rename_i k e
      exact ⟨l, k, rfl, e, h⟩
    · exact h.elim
  · exact h.elim
section
variable {K : PySem.W.Frag} {g : Gh} {σ : L2.St} {H : Hp} {ρ : Rho} {M : Mm} {F : Hp} {O : Own} {p : Addr} {o : HO} {mo mo' : Mo}
/-- a new thing that changes -/
theorem Ab.newMo (A : Ab K g σ H ρ M F O) (h : H p = none) (hm : MoOk K F (upd H p o) (fun b => if b = p then some (.obj p) else O b) p mo) : Ab K g σ (upd H p o) ρ (updM M p mo) F (fun b => if b = p then some (.obj p) else O b) := by
  have A1 := A.laid (o := o) h
  have hO := A.o0 h
  have keep : ∀ b u, O b = some u → (if b = p then some (Ow.obj p) else O b) = some u := fun b u e => by rw [if_neg (fun z => by rw [z, hO] at e; cases e)]; exact e
  exact { sub := A1.sub, ext0 := A1.ext0, new := A1.new, frm := A1.frm, thr := A1.thr
          liv := fun b u e => by
            by_cases z : b = p
            · subst z; exact ⟨⟨_, upd_same⟩, A.f0 h, .inr (A.g0 h)⟩
            · rw [if_neg z] at e; exact A1.liv b u e
          slo := fun b u e n => by
            by_cases z : b = p
            · rw [if_pos z] at e; exact absurd (Option.some.inj e).symm (n p)
            · rw [if_neg z] at e; exact A1.slo b u e n
          tm := fun q l e => by
            obtain ⟨xs, e1, e2, e3⟩ := A1.tm q l e
            exact ⟨xs, e1, e2, keep q _ e3⟩
          mu := fun b m e => by
            by_cases z : b = p
            · subst z
              have e' : m = mo := (Option.some.inj ((if_pos rfl).symm.trans (show (if b = b then some mo else M b) = some m from e))).symm
              subst e'
              exact hm
            · have e' : M b = some m := by
                have := e
                unfold updM at this
                rw [if_neg z] at this
                exact this
              exact (A1.mu b m e').mono (Same.refl F) fun q u e1 e2 => ⟨e1, keep q _ e2⟩
          len := A1.len
          sl := fun j sv e => by
            obtain ⟨v, e1, r⟩ := A1.sl j sv e
            exact ⟨v, e1, r.mono (Same.refl F) fun q xs e1 e2 => ⟨e1, keep q _ e2⟩⟩ }
/-- a thing that changes is changed -/
theorem Ab.setMo (A : Ab K g σ H ρ M F O) (hM : M p = some mo) (hO : O p = some (.obj p)) (hm : MoOk K F (upd H p o) O p mo') : Ab K g σ (upd H p o) ρ (updM M p mo') F O := by
  obtain ⟨⟨x, hx⟩, hF, hg⟩ := A.liv p _ hO
  have ne : ∀ b u, O b = some u → u ≠ .obj p → b ≠ p := fun b u e n z => by rw [z, hO] at e; exact n (Option.some.inj e).symm
  exact { sub := fun b u e => by rw [upd_ne (fun z => by rw [z, hF] at e; cases e)]; exact A.sub b u e
          ext0 := A.ext0, new := A.new
          frm := fun b u e n => by
            rw [upd_ne]
            · exact A.frm b u e n
            · intro z
              subst z
              rcases hg with y | y
              · exact n y
              · rw [e] at y; cases y
          thr := fun b u e => by
            by_cases z : b = p
            · subst z; exact ⟨_, upd_same⟩
            · rw [upd_ne z]; exact A.thr b u e
          liv := fun b u e => by
            obtain ⟨r1, r2⟩ := A.liv b u e
            refine ⟨?_, r2⟩
            by_cases z : b = p
            · subst z; exact ⟨_, upd_same⟩
            · rw [upd_ne z]; exact r1
          slo := A.slo
          tm := fun q l e => by
            obtain ⟨xs, e1, e2, e3⟩ := A.tm q l e
            exact ⟨xs, by rw [upd_ne (ne q _ e3 (fun z => by cases z))]; exact e1, e2, e3⟩
          mu := fun b m e => by
            by_cases z : b = p
            · subst z
              have e' : m = mo' := (Option.some.inj ((if_pos rfl).symm.trans (show (if b = b then some mo' else M b) = some m from e))).symm
              subst e'
              exact hm
            · have e' : M b = some m := by
                have := e
                unfold updM at this
                rw [if_neg z] at this
                exact this
              exact (A.mu b m e').mono (Same.refl F) fun q u e1 e2 => ⟨by rw [upd_ne (ne q _ e2 (fun y => z (by cases y; rfl)))]; exact e1, e2⟩
          len := A.len
          sl := fun j sv e => by
            obtain ⟨v, e1, r⟩ := A.sl j sv e
            exact ⟨v, e1, r.mono (Same.refl F) fun q xs e1 e2 => ⟨by rw [upd_ne (ne q _ e2 (fun z => by cases z))]; exact e1, e2⟩⟩ }
end
/-! ## the rules -/
def tNewN : TE := fun _ H Q => ∀ p, H p = none → Q (.ref p) (upd H p (dkO p []))
def rInN (K : PySem.W.Frag) (neg : Bool) : R2 := fun x y H Q => ∃ F p kvs xs d k a, y = .ref p ∧ x = .ref a ∧ Same F H ∧ H p = some (dkO p xs) ∧ DRel K F kvs xs ∧ nkOf d = some k ∧ k.depth ≤ 8 ∧ Rp K F d x ∧ Q (.bl (if neg then !hasK kvs k else hasK kvs k)) H
def rGetN (K : PySem.W.Frag) : R2 := fun y x H Q => ∃ F p kvs xs d k a z, y = .ref p ∧ x = .ref a ∧ Same F H ∧ H p = some (dkO p xs) ∧ DRel K F kvs xs ∧ nkOf d = some k ∧ k.depth ≤ 8 ∧ Rp K F d x ∧ lookK kvs k = some z ∧ ∀ v, Rp K F z v → Q v H
def rSetN (K : PySem.W.Frag) : TSet := fun y x v H Q => ∃ F p kvs xs d k a dv, y = .ref p ∧ x = .ref a ∧ Same F H ∧ H p = some (dkO p xs) ∧ DRel K F kvs xs ∧ nkOf d = some k ∧ k.depth ≤ 8 ∧ Rp K F d x ∧ Rp K F dv v ∧ kvs.length < 1000000 ∧
  ∀ xs', DRel K F (putD kvs d dv k) xs' → Q (upd H p (dkO p xs'))
section
variable {X : Cx} {W : WX} {a b e : Expr} {pa pb pe : PTE} {pos : Pos}
theorem pe_newN : PE X (.Dict [] [] pos) tNewN := ⟨fun pins s σ H Q I h =>
  wpAny_Dict_empty ⟨.ref s.heap.objs.size, _, I.laid (a := s.heap.objs.size) (o := dkO s.heap.objs.size []) (t' := s.toks) (fun _ _ q => Heap.get?_push_of_some _ q) (Nat.le_refl _)
    (dk_ok ⟨beq_eq_false_iff_ne.mpr (Ne.symm (Nat.ne_of_lt I.big)), fun _ z => (nomatch z), List.nodup_nil, _, #[], 0, Heap.get?_push_size _ rfl, ⟨rfl, rfl, rfl⟩, rfl, fun _ => rfl⟩), rfl, h _ (I.hok.fresh (Nat.le_refl _))⟩⟩
theorem room_n {prog : Program} {w : World} {A : Around} (hu : A.units + 9 < cLine) : (nestedKind prog w).room A.in1 := by
  show A.units + 1 + 8 < cLine
  omega
theorem op_inN (hu : X.A.units + 9 < cLine) : OpR X (compareOp .In) (rInN X.K false) := by
  intro pins s σ H x y v u Q I rx ry h
  obtain ⟨F, p, kvs, xs, d, k, c, rfl, rfl, sm, e, dr, hk, hd, rd, q⟩ := h
  cases (show v = .ref c from rx)
  cases (show u = .ref p from ry)
  obtain ⟨z1, z2⟩ := dk_is I sm e dr
  refine wpAny_in_heap (room_n hu) ⟨nested_is I sm d k _ _ hk rd rfl, hd⟩ z1 z2 ?_
  rw [drel_key k dr]
  exact ⟨.bl (hasK kvs k), H, I.tok _, rfl, q⟩
theorem op_notInN (hu : X.A.units + 9 < cLine) : OpR X (compareOp .NotIn) (rInN X.K true) := by
  intro pins s σ H x y v u Q I rx ry h
  obtain ⟨F, p, kvs, xs, d, k, c, rfl, rfl, sm, e, dr, hk, hd, rd, q⟩ := h
  cases (show v = .ref c from rx)
  cases (show u = .ref p from ry)
  obtain ⟨z1, z2⟩ := dk_is I sm e dr
  refine wpAny_notIn_heap (room_n hu) ⟨nested_is I sm d k _ _ hk rd rfl, hd⟩ z1 z2 ?_
  rw [drel_key k dr]
  exact ⟨.bl (!hasK kvs k), H, I.tok _, rfl, q⟩
theorem ix_N (hu : X.A.units + 9 < cLine) : IxR X (rGetN X.K) := by
  intro value slice pins s σ H y x v u Q I ry rx h hs
  obtain ⟨F, p, kvs, xs, d, k, c, z, rfl, rfl, sm, e, dr, hk, hd, rd, hl, q⟩ := h
  cases (show u = .ref c from rx)
  cases (show v = .ref p from ry)
  obtain ⟨z1, z2⟩ := dk_is I sm e dr
  obtain ⟨w, hw, t, rt, rtw⟩ := drel_look k dr hl
  exact subscriptTail_builtinR (x := w.2) z2.typeIs PySem.F.slot_dict_getitem.lookup
    (wpAny_getItem_heap (Q := fun r s' => r = w.2 ∧ EP X pins σ Q r s') (room_n hu) ⟨nested_is I sm d k _ _ hk rd rfl, hd⟩ z2 hw ⟨rfl, t, H, I.tok _, rtw, q t rt⟩) hs
theorem set_N (hu : X.A.units + 9 < cLine) : PSet X (rSetN X.K) := by
  intro pins s σ H y x v ov iv u Q I ry rx rv h
  obtain ⟨F, p, kvs, xs, d, k, c, dv, rfl, rfl, sm, e, dr, hk, hd, rd, rdv, hl, q⟩ := h
  cases (show iv = .ref c from rx)
  cases (show ov = .ref p from ry)
  obtain ⟨z1, z2⟩ := dk_is I sm e dr
  have hz : xs.length ≤ sizeLine := by rw [← drel_len dr]; exact Nat.le_trans (Nat.le_of_lt hl) (by decide)
  refine wpAny_setItem_heap (hsz := hz) (room_n hu) ⟨nested_is I sm d k _ _ hk rd rfl, hd⟩ z2 fun h' dd' hs => ?_
  obtain ⟨o, es, ep, hq, h2, h3, h4, h6, h5⟩ := dd'
  have dr' := drel_put dr hk hd rd rdv rv
  refine ⟨upd H p (dkO p (storedH xs k c u)), d_write I (by rw [e]; exact True.intro) hs ⟨o, hq⟩ (dk_ok ⟨z1, ?_, h5, o, es, ep, hq, h2, h3, fun w' => ?_⟩), q _ dr'⟩
  · have all : ∀ {kvs : List (D × D)} {xs : KEnts}, DRel X.K F kvs xs → ∀ x ∈ xs, ntK x.1 = true := by
      intro kvs
      induction kvs with
      | nil => intro xs r x hx; rw [show xs = [] from r] at hx; cases hx
      | cons p r ih =>
        intro xs q x hx
        obtain ⟨y, ys, v, rfl, e2, e3, e4, e5, e6, e7⟩ := q
        rcases List.mem_cons.mp hx with rfl | hx
        · exact nt_nk _ _ e2
        · exact ih e7 x hx
    exact all dr'
  · have all : ∀ {kvs : List (D × D)} {xs : KEnts}, DRel X.K F kvs xs → ∀ x ∈ xs, ntK x.1 = true := by
      intro kvs
      induction kvs with
      | nil => intro xs r x hx; rw [show xs = [] from r] at hx; cases hx
      | cons p r ih =>
        intro xs q x hx
        obtain ⟨y, ys, v, rfl, e2, e3, e4, e5, e6, e7⟩ := q
        rcases List.mem_cons.mp hx with rfl | hx
        · exact nt_nk _ _ e2
        · exact ih e7 x hx
    rw [h4]
    refine List.map_congr_left fun y hy => ?_
    show (⟨y.1.hash X.w, .ref y.2.1, y.2.2⟩ : DictEntry) = _
    rw [hash_nt X.w w' _ (all dr' y hy)]
/-! ### readings -/
def dNewN : PTE := fun _ _ M q => ∀ a, M a = none → q (.raw (.ref a)) (updM M a (.dct []))
theorem de_newN : DE X W (.Dict [] [] pos) dNewN := pe_imp pe_newN fun σ H Q ⟨g, ρ, M, F, O, q, w, A, p, hw, k⟩ => fun c hc => by
  have A2 := A.newMo (o := dkO c []) (mo := .dct []) hc ⟨[], upd_same, if_pos rfl, Nat.zero_le _, rfl⟩
  exact k (.ref c) _ F _ _ (.raw (.ref c)) A2 (Same.refl F) rfl (p c (A.m0 hc))
def dInN (neg : Bool) (pa pb : PTE) : PTE := fun w ρ M q => pa w ρ M fun x M1 => pb w ρ M1 fun y M2 => asDct y M2 fun _ kvs => asKey x fun k => q (.bl (if neg then !hasK kvs k else hasK kvs k)) M2
theorem Vw.tupR {K : PySem.W.Frag} {σ : L2.St} {ρ : Rho} {F : Hp} {l : List D} {v : V} (h : Vw K σ ρ F (.tup l) v) : Rp K F (.tup l) v := by
  rcases h with h | ⟨_, _, _, _, _, _, h⟩
  · exact h
  · cases h
theorem Vw.rawR {K : PySem.W.Frag} {σ : L2.St} {ρ : Rho} {F : Hp} {u v : V} (h : Vw K σ ρ F (.raw u) v) : v = u := by
  rcases h with h | ⟨_, _, _, _, _, _, h⟩
  · exact h
  · cases h
theorem inN_run {neg : Bool} {σ : L2.St} {H : Hp} {Q : VK} (h : real X.K W (dInN neg pa pb) σ H Q) : tOp (rInN X.K neg) (realO X.K W pa) (realO X.K W pb) σ H Q := by
  obtain ⟨g, ρ, M, F, O, q, w, A, p, hw, k⟩ := h
  refine ⟨g, ρ, M, F, O, _, w, A, p, hw, fun v H1 F1 O1 M1 d A1 s1 r1 q1 => ⟨g, ρ, M1, F1, O1, _, w, A1, q1, hw.mono s1, fun u H2 F2 O2 M2 y A2 s2 r2 q2 => ?_⟩⟩
  obtain ⟨c, kvs, rfl, hM, q3⟩ := asDct_of q2
  obtain ⟨l, nk, rfl, hk, hd, q4⟩ := asKey_of q3
  obtain ⟨xs, e1, e2, e3, e4⟩ := A2.mu c _ hM
  have rt := (r1.mono s2).tupR
  obtain ⟨b, ys, eb, _⟩ := id rt
  exact ⟨F2, c, kvs, xs, .tup l, nk, b, r2.rawR, eb, A2.sub, e1, e4, hk, hd, rt, k _ H2 F2 O2 M2 (.bl (if neg then !hasK kvs nk else hasK kvs nk)) A2 (s1.trans s2) rfl q4⟩
theorem de_inN (hu : X.A.units + 9 < cLine) (ha : DO X W a pa) (hb : DO X W b pb) (hm : behindInMarks .In b = false := by rfl) : DE X W (.Compare a [.In] [b] pos) (dInN false pa pb) := pe_imp (pe_cmpR (op_inN hu) ha hb hm) fun σ H Q h => inN_run h
theorem de_notinN (hu : X.A.units + 9 < cLine) (ha : DO X W a pa) (hb : DO X W b pb) (hm : behindInMarks .NotIn b = false := by rfl) : DE X W (.Compare a [.NotIn] [b] pos) (dInN true pa pb) := pe_imp (pe_cmpR (op_notInN hu) ha hb hm) fun σ H Q h => inN_run h
theorem dt_inN (hu : X.A.units + 9 < cLine) (ha : DO X W a pa) (hb : DO X W b pb) (hm : behindInMarks .In b = false := by rfl) : DT X W (.Compare a [.In] [b] pos) (dTst (dInN false pa pb)) :=
  pt_imp (pt_cmpR (op_inN hu) ha hb hm) fun σ H Q h => tst_run (t := tOp (rInN X.K false) (realO X.K W pa) (realO X.K W pb)) (fun _ _ _ h => inN_run h) h
theorem dt_notinN (hu : X.A.units + 9 < cLine) (ha : DO X W a pa) (hb : DO X W b pb) (hm : behindInMarks .NotIn b = false := by rfl) : DT X W (.Compare a [.NotIn] [b] pos) (dTst (dInN true pa pb)) :=
  pt_imp (pt_cmpR (op_notInN hu) ha hb hm) fun σ H Q h => tst_run (t := tOp (rInN X.K true) (realO X.K W pa) (realO X.K W pb)) (fun _ _ _ h => inN_run h) h
def dGetN (pb pa : PTE) : PTE := fun w ρ M q => pb w ρ M fun y M1 => pa w ρ M1 fun x M2 => asDct y M2 fun _ kvs => asKey x fun k => ∃ z, lookK kvs k = some z ∧ q z M2
theorem de_getN (hu : X.A.units + 9 < cLine) (hb : DO X W b pb) (ha : DO X W a pa) (hs : PlainIx a := by exact fun _ _ => rfl) : DE X W (.Subscript b a pos) (dGetN pb pa) := pe_imp (pe_ix (ix_N hu) hb ha hs) fun σ H Q ⟨g, ρ, M, F, O, q, w, A, p, hw, k⟩ => by
  refine ⟨g, ρ, M, F, O, _, w, A, p, hw, fun v H1 F1 O1 M1 y A1 s1 r1 q1 => ⟨g, ρ, M1, F1, O1, _, w, A1, q1, hw.mono s1, fun u H2 F2 O2 M2 d A2 s2 r2 q2 => ?_⟩⟩
  obtain ⟨c, kvs, rfl, hM, q3⟩ := asDct_of q2
  obtain ⟨l, nk, rfl, hk, hd, z, hz, q4⟩ := asKey_of q3
  obtain ⟨xs, e1, e2, e3, e4⟩ := A2.mu c _ hM
  have rt := r2.tupR
  obtain ⟨b', ys, eb, _⟩ := id rt
  exact ⟨F2, c, kvs, xs, .tup l, nk, b', z, (r1.mono s2).rawR, eb, A2.sub, e1, e4, hk, hd, rt, hz, fun v rv => k _ H2 F2 O2 M2 _ A2 (s1.trans s2) rv q4⟩
def dPutN (pv pb pa : PTE) : PTS := fun w P ρ M => pv w ρ M fun v M1 => pb w ρ M1 fun y M2 => pa w ρ M2 fun x M3 => asDct y M3 fun c kvs => asKey x fun k => kvs.length < 1000000 ∧ P.nx ρ (updM M3 c (.dct (putD kvs x v k)))
theorem ds_putN {pt : Pos} (hu : X.A.units + 9 < cLine) (he : DE X W e pe) (hb : DO X W b pb) (ha : DO X W a pa) (hs : swapsWithSole [.Subscript b a pt] e pos.line X.env = pure false := by rfl) (hw : swappedStores [.Subscript b a pt] e X.env = pure none := by rfl)
    (hA : ∀ v, assign (.Subscript b a pt) X.env v = (do
      let ov ← holding [v] (eval b X.env)
      let iv ← holding [v, ov] (eval a X.env)
      standAt pt
      holding [v, ov, iv] (setItem ov iv v)
      release [v, ov, iv] []) := by intro _; rfl) : DS X W (.Assign [.Subscript b a pt] e pos) (dPutN pe pb pa) := by
  refine ps_imp (ps_asg he (pg_sub hb ha (set_N hu) hA) hs hw) fun D σ H ⟨g, ρ, M, F, O, P, w, A, h, hw, k1, k2, k3, k4⟩ => ?_
  refine ⟨g, ρ, M, F, O, _, w, A, h, hw, fun v H1 F1 O1 M1 dv A1 s1 r1 q1 => ⟨g, ρ, M1, F1, O1, _, w, A1, q1, hw.mono s1, fun y' H2 F2 O2 M2 y A2 s2 r2 q2 => ⟨g, ρ, M2, F2, O2, _, w, A2, q2, (hw.mono s1).mono s2, fun x' H3 F3 O3 M3 x A3 s3 r3 q3 => ?_⟩⟩⟩
  obtain ⟨c, kvs, rfl, hM, q3⟩ := asDct_of q3
  obtain ⟨l, nk, rfl, hk, hd, hl, q4⟩ := asKey_of q3
  obtain ⟨xs, e1, e2, e3, e4⟩ := A3.mu c _ hM
  have rt := r3.tupR
  obtain ⟨b', ys, eb, _⟩ := id rt
  refine ⟨F3, c, kvs, xs, .tup l, nk, b', dv, (r2.mono s3).rawR, eb, A3.sub, e1, e4, hk, hd, rt, Rp.mono (s2.trans s3) _ _ r1, hl, fun xs' dr' => ?_⟩
  have A4 := A3.setMo (o := dkO c xs') (mo' := .dct (putD kvs (.tup l) dv nk)) hM e2 ⟨xs', upd_same, e2, by have := putD_len kvs (.tup l) dv nk; omega, dr'⟩
  exact k1 σ _ ρ _ F3 O3 A4 ((s1.trans s2).trans s3) q4
end
theorem hu9 {A : Around} {k : Nat} (hr : Room k A) : A.units + 9 < cLine := by have := hr.units; omega
end Px

set_option Elab.async false
set_option linter.all false
set_option maxRecDepth 100000
namespace Px
open PySem PySem.Spec PyProof.Rows L2
/-! # defs that return a new list: who calls them may change it -/
abbrev PSpL := List D → Mm → (List D → Mm → Prop) → PX → Prop
def toSpL (K : PySem.W.Frag) (n : Nat) (sp : PSpL) : Sp := fun vs H Q E => ∃ g F M O ds q e, vs.length = n ∧ Wd K g H M F O ∧ RpL K F ds vs ∧ sp ds M q e ∧
  (∀ a xs H' F' O' M' ls, Aft K H F O H' M' F' O' → H' a = some (.lst xs) → RpL K F' ls xs → F' a = none → O' a = none → H a = none → q ls M' → Q (.ref a) H') ∧
  (∀ cls dd H' F' O' M' fs, Aft K H F O H' M' F' O' → ExOk K F' dd fs → e cls fs M' → E cls dd H')
theorem toSpL_len {K : PySem.W.Frag} {n : Nat} {sp : PSpL} {vs : List V} {H : Hp} {Q : VK} {E : XK} (h : toSpL K n sp vs H Q E) : vs.length = n := by
  obtain ⟨_, _, _, _, _, _, _, e, _⟩ := h
  exact e
def ShowsL (sp : PSpL) (N : Nat) (p : PTS) : Prop := ∀ ds M q e, sp ds M q e →
  p (fun cls fs _ M' => ∃ M2, MLe M2 M' ∧ e cls fs M2) { nx := fun _ _ => False, rt := fun _ _ => False, rl := fun l M' => ∃ M2, MLe M2 M' ∧ q l M2 } (startR N ds) M
theorem objs_none {O : Own} {a : Addr} (h : O a = none) : objs O a = none := by
  unfold objs
  rw [h]
section
variable {P : Program} {w : World} {K : PySem.W.Frag} {mg : Str → Option Value} {base : Heap} {k : Nat} {f : Addr} {fd : FuncData} {ps N : List Str}
theorem Fun.pokL {x qual : Str} {stm : Stmt} {n : Nat} {sp : PSpL} {p : PTS} (Fn : L2.Fun K x qual stm f fd) (S : FnScope N ps (defScope stm)) (hn : ps.length = n) (hs : ShowsL sp N.length p)
    (hbody : ∀ (cdv : Value) (A : Around) (outer : List Env) (s : Shared) (H : Hp) (E : XK), Room k (A.deeper (envOfC qual (defScope stm) s.heap.objs.size f cdv)) → A.guards = some [] →
      DSs (cxOf (L2.CX P w) P w K mg base N qual (defScope stm) f cdv A outer s H E) (WE E) (defBody stm) p) :
    FnG P w K mg base (k + 1) f fd ps (toSpL K n sp) := by
  refine Fun.gok Fn S (fun vs H Q E h => by rw [toSpL_len h, hn]) fun cdv A outer s H vs Q E hr hG hsp => ⟨_, hbody cdv A outer s H E hr hG, ?_⟩
  obtain ⟨g, F, M, O, ds, q, e, _, A0, rp, hsp, hQ, hE⟩ := hsp
  refine ⟨_, _, _, _, _, _, _, A0.enter (N := N) rp, hs ds M q e hsp, ?_, ?_, ?_, ?_, ?_, ?_⟩
  · intro cls dd σ' H' ρ' M' F' O' fs A2 s2 x2 ⟨M2, h1, h2⟩
    exact hE cls dd H' F' _ M2 fs (A2.leave h1) x2 h2
  · intro σ' H' ρ' M' F' O' A2 s2 z; exact z.elim
  · intro v σ' H' ρ' M' F' O' d A2 s2 r2 z; exact z.elim
  · intro σ' H' ρ' M' F' O' A2 s2 z; exact z.elim
  · intro σ' H' ρ' M' F' O' A2 s2 z; exact z.elim
  · intro a xs σ' H' ρ' M' F' O' ls A2 s2 e1 e2 e3 e4 e5 ⟨M2, h1, h2⟩
    exact hQ a xs H' F' _ M2 ls (A2.leave h1) e1 e2 e3 (objs_none e4) e5 h2
end
section
variable {X : Cx} {W : WX} {k n : Nat} {f : Addr} {fd : FuncData} {ps ks : List Str} {sp : PSpL} {x : Str} {p pos : Pos} {e : Expr} {es : List Expr} {pl : PTA} {ds : List Value} {dd : List D} {dvs : List V} {kws : List Keyword} {ix : List Nat} {i : Nat}
def dCallL (sp : PSpL) (pl : PTA) : PTA := fun w ρ M q => pl w ρ M fun ds M1 => sp ds M1 q fun cls fs M2 => w cls fs ρ M2
def dCallLK (sp : PSpL) (ix : List Nat) (pl : PTA) : PTA := fun w ρ M q => pl w ρ M fun ds M1 => sp (pick ix ds) M1 q fun cls fs M2 => w cls fs ρ M2
theorem call_readingL {K : PySem.W.Frag} {g : Gh} {σ : L2.St} {H : Hp} {ρ : Rho} {M : Mm} {F : Hp} {O : Own} {w : PWi} {q : List D → Mm → Prop} {ds : List D} {vs : List V} {Q : VK} (A : Ab K g σ H ρ M F O) (hw : WOk K g F W w)
    (r : RpL K F ds vs) (hl : ds.length = n) (h : sp ds M q fun cls fs M2 => w cls fs ρ M2)
    (k : ∀ a xs H' F' O' M' ls, Ab K g σ H' ρ M' F' O' → Same F F' → H' a = some (.lst xs) → RpL K F' ls xs → F' a = none → O' a = none → g.H0 a = none → q ls M' → Q (.ref a) H') :
    toSpL K n sp vs H Q fun cls d H' => W cls d σ H' := by
  refine ⟨g, F, M, O, ds, q, _, by rw [← hl, r.len], A.toWd, r, h, fun a xs H' F' O' M' ls B e1 e2 e3 e4 e5 hq => ?_, fun cls dd H' F' O' M' fs B x hq => ?_⟩
  · obtain ⟨O2, A2, s, hO⟩ := A.after2 B
    exact k a xs H' F' O2 M' ls A2 s e1 e2 e3 (by rw [hO a (A.o0 e5)]; exact e4) (A.g0 e5) hq
  · obtain ⟨O2, A2, s⟩ := A.after B
    exact hw cls dd σ H' ρ M' F' O2 fs A2 s x hq
theorem dl_callL (Fg : FnG X.prog X.w X.K X.mg X.base k f fd ps (toSpL X.K n sp)) (hn : ps.length = n) (hlen : ∀ ds M q e, sp ds M q e → ds.length = n) (hr : Room k X.A) (hG : X.A.guards = some []) (hg : Gl X x) (hm : X.mg x = some (.ref f))
    (hk : PySem.W.keepIn X.K (.ref f) = true) (hb : Binds X.K fd ps []) (tk : Takes X W) (ha : DA X W (e :: es) pl) (hdb : (x == ("__debug__" : Str)) = false := by decide)
    (he : starEach (e :: es) X.env = (false, eval e X.env) :: starEach es X.env := by rfl) (hpl : (backTo pos (starEach es X.env)).any (·.1) = false := by rfl) : DL X W (.Call (.Name x p) (e :: es) [] pos) (dCallL sp pl) := by
  refine ⟨fun pins s σ H Q I ⟨g, ρ, M, F, O, q, w, A, pr, hw, k⟩ => ?_⟩
  refine wpAny_Call_Name_kw (ld_glob I hg hm ?_ hdb)
  refine PySem.W.callWith_K (h₀ := X.base) I.ok.mod.kin hk (thn (ha.run pos pins s σ H (fun vs H1 => toSpL X.K n sp vs H1 Q fun cls d H' => W cls d σ H') I ?_) fun us s1 hh => ?_) he hpl
  · exact ⟨g, ρ, M, F, O, _, w, A, pr, hw, fun vs H1 F1 O1 M1 d1 A1 s1 r1 q1 => call_readingL A1 (hw.mono s1) r1 (hlen _ _ _ _ q1) q1 fun a xs H2 F2 O2 M2 ls A2 s2 e1 e2 e3 e4 e5 q2 => k a xs H2 F2 O2 M2 ls A2 (s1.trans s2) e1 e2 e3 e4 e5 q2⟩
  · obtain ⟨vs, H1, I1, r, q1⟩ := hh
    refine ⟨I1.kIn, ?_⟩
    have := run_g (dvs := []) Fg hr hG hb .nil tk I1 r (by rw [List.append_nil]; exact q1)
    exact this
theorem dl_callLK (Fg : FnG X.prog X.w X.K X.mg X.base k f fd ps (toSpL X.K n sp)) (hn : ps.length = n) (hlen : ∀ ds M q e, sp ds M q e → ds.length = n) (hr : Room k X.A) (hG : X.A.guards = some []) (hg : Gl X x) (hm : X.mg x = some (.ref f))
    (hk : PySem.W.keepIn X.K (.ref f) = true) (hb : KwB X.K fd ps ks ix) (tk : Takes X W) (ha : DK X W kws pl)
    (hall : (backToKw pos (keywordEach kws X.env)).all (·.1.isSome) = true := by rfl) (hks : (backToKw pos (keywordEach kws X.env)).filterMap (·.1) = ks := by rfl) (hdb : (x == ("__debug__" : Str)) = false := by decide)
    (hpl : ((backTo pos (starEach [] X.env)).any (·.1) || (backToKw pos (keywordEach kws X.env)).any (·.1.isNone)) = false := by rfl) : DL X W (.Call (.Name x p) [] kws pos) (dCallLK sp ix pl) := by
  refine ⟨fun pins s σ H Q I ⟨g, ρ, M, F, O, q, w, A, pr, hw, kk⟩ => ?_⟩
  refine wpAny_Call_Name_kw (ld_glob I hg hm ?_ hdb)
  refine PySem.W.callWith_KW0 (h₀ := X.base) I.ok.mod.kin hk hall (thn (ha.run pos pins s σ H (fun vs H1 => toSpL X.K n sp (pick ix vs) H1 Q fun cls d H' => W cls d σ H') I ?_) fun us s1 hh => ?_) hpl
  · exact ⟨g, ρ, M, F, O, _, w, A, pr, hw, fun vs H1 F1 O1 M1 d1 A1 s1 r1 q1 => call_readingL A1 (hw.mono s1) (rpl_pick r1 ix) (hlen _ _ _ _ q1) q1 fun a xs H2 F2 O2 M2 ls A2 s2 e1 e2 e3 e4 e5 q2 => kk a xs H2 F2 O2 M2 ls A2 (s1.trans s2) e1 e2 e3 e4 e5 q2⟩
  · obtain ⟨vs, H1, I1, r, q1⟩ := hh
    refine ⟨I1.kIn, ?_⟩
    rw [hks]
    have r2 := vals_pick r ix
    have hl : (pick ix us).length = ps.length := by rw [← r2.length]; exact Fg.len _ _ _ _ q1
    refine wpAny_call (codeAny_mono (Fg.run X.A X.stack s1 H1 ⟨[], ks.zip us⟩ (pick ix us) (pick ix vs) Q _ hr hG I1.env0 (hb s1 us I1.kIn hl) r2 q1) fun r s' hq => ?_)
    cases r with
    | error e => exact tk e s' (XE.of_call I1 (fun _ _ _ h => h) hq)
    | ok fl =>
      cases fl with
      | ret u => exact I1.after hq
      | next => exact hq.elim
      | brk => exact hq.elim
      | cont => exact hq.elim
/-- return of a new list -/
def dRetL (pl : PTA) : PTS := fun w P ρ M => pl w ρ M P.rl
theorem ds_retL (h : DL X W e pl) : DS X W (.Return (some e) pos) (dRetL pl) := ps_imp (ps_ret h) fun D σ H ⟨g, ρ, M, F, O, P, w, A, h, hw, k1, k2, k3, k4, k5⟩ =>
  ⟨g, ρ, M, F, O, _, w, A, h, hw, fun a xs H' F' O' M' ls A' s e1 e2 e3 e4 e5 q => k5 a xs σ H' ρ M' F' O' ls A' s e1 e2 e3 e4 e5 q⟩
/-- return of the list that a slot holds alone -/
def dRetOwn (i : Nat) : PTS := fun _ P ρ M => match gt ρ i with | some (.own l) => P.rl l M | _ => False
/-- the slot's list is nobody's -/
theorem Ab.drop {K : PySem.W.Frag} {g : Gh} {σ : L2.St} {H : Hp} {ρ : Rho} {M : Mm} {F : Hp} {O : Own} {ds : List D} (A : Ab K g σ H ρ M F O) (hi : gt ρ i = some (.own ds)) :
    ∃ l xs O', σ[i]? = some (some (.ref l)) ∧ H l = some (.lst xs) ∧ RpL K F ds xs ∧ F l = none ∧ O' l = none ∧ g.H0 l = none ∧ Ab K g σ H (un ρ i) M F O' := by
  obtain ⟨v, e1, l, xs, rfl, e3, e4, e5⟩ := A.sl i _ hi
  obtain ⟨_, hFl, _⟩ := A.liv l _ e5
  have h0l : g.H0 l = none := A.slo l _ e5 (fun _ z => by cases z)
  refine ⟨l, xs, fun b => if b = l then none else O b, e1, e3, e4, hFl, if_pos rfl, h0l, ?_⟩
  have keep : ∀ b u, O b = some u → u ≠ .slot i → (if b = l then none else O b) = some u := fun b u e n => by
    rw [if_neg]
    · exact e
    · intro z
      rw [z, e5] at e; exact n (Option.some.inj e).symm
  exact { sub := A.sub, ext0 := A.ext0, new := A.new, frm := A.frm, thr := A.thr
          liv := fun b u e => by
            by_cases z : b = l
            · rw [if_pos z] at e; cases e
            · rw [if_neg z] at e; exact A.liv b u e
          slo := fun b u e n => by
            by_cases z : b = l
            · rw [if_pos z] at e; cases e
            · rw [if_neg z] at e; exact A.slo b u e n
          tm := fun q l2 e => by
            obtain ⟨ys, e1, e2, e3⟩ := A.tm q l2 e
            exact ⟨ys, e1, e2, keep q _ e3 (fun z => by cases z)⟩
          mu := fun b m e => (A.mu b m e).mono (Same.refl F) fun q u e1 e2 => ⟨e1, keep q _ e2 (fun z => by cases z)⟩
          len := by rw [un_len]; exact A.len
          sl := fun j sv e => by
            by_cases z : j = i
            · subst z; rw [gt_un_self] at e; cases e
            · rw [gt_un_ne z] at e
              obtain ⟨v, e1, r⟩ := A.sl j sv e
              exact ⟨v, e1, r.mono (Same.refl F) fun q xs e1 e2 => ⟨e1, keep q _ e2 (fun y => z (by cases y; rfl))⟩⟩ }
theorem ds_retOwn (i : Nat) {x : Str} {p2 : Pos} (hN : X.N[i]? = some x := by rfl) (hv : Vis X.env.scope x := by first | exact Or.inl rfl | exact Or.inr (Or.inl rfl) | exact Or.inr (Or.inr rfl)) (hd : (x == ("__debug__" : Str)) = false := by decide)
    (hcd : (x == ("__classdict__" : Str)) = false := by decide) : DS X W (.Return (some (.Name x p2)) pos) (dRetOwn i) := ps_imp (ps_ret (pv i hN hv hd hcd)) fun D σ H ⟨g, ρ, M, F, O, P, w, A, h, hw, k1, k2, k3, k4, k5⟩ => by
  unfold dRetOwn at h
  split at h
  · rename_i ls e
    obtain ⟨l, xs, O', e1, e2, e3, e4, e5, e6, A'⟩ := A.drop e
    exact ⟨.ref l, e1, k5 l xs σ H _ M F O' ls A' (Same.refl F) e2 e3 e4 e5 e6 h⟩
  · exact h.elim
end
end Px

set_option Elab.async false
set_option linter.all false
set_option maxRecDepth 100000
namespace Px
open PySem PySem.Spec PyProof.Rows L2
/-! # least common multiples of lists -/
theorem gcd_pos' {a b : Int} (h : 0 < b) : 0 < (Int.gcd a b : Int) := by
  have := Int.gcd_pos_iff (a := a) (b := b) |>.mpr (.inr (by omega))
  omega
/-- as the program and the laws reckon it -/
def lc (a b : Int) : Int := a / g0 a b * b
theorem lc_l {a b : Int} : a ∣ lc a b := by
  unfold lc g0
  obtain ⟨b', eb⟩ := Int.gcd_dvd_right (a := a) (b := b)
  by_cases hz : (Int.gcd a b : Int) = 0
  · rw [hz] at eb
    rw [eb]; simp
  · have e : a / (Int.gcd a b : Int) * b = a * b' := by
      have e2 := Int.ediv_mul_cancel (Int.gcd_dvd_left (a := a) (b := b))
      generalize (Int.gcd a b : Int) = g at *
      rw [eb, ← Int.mul_assoc, e2]
    rw [e]
    exact Int.dvd_mul_right ..
theorem lc_r {a b : Int} : b ∣ lc a b := Int.dvd_mul_left ..
theorem lc_pos {a b : Int} (ha : 0 < a) (hb : 0 < b) : 0 < lc a b := by
  unfold lc g0
  refine Int.mul_pos ?_ hb
  have gp := gcd_pos' (a := a) hb
  have e := Int.ediv_mul_cancel (Int.gcd_dvd_left (a := a) (b := b))
  by_cases c : 0 < a / (Int.gcd a b : Int)
  · exact c
  · have : a / (Int.gcd a b : Int) * (Int.gcd a b : Int) ≤ 0 := Int.mul_nonpos_of_nonpos_of_nonneg (by omega) (by omega)
    omega
theorem lc_dvd {a b m : Int} (ha : 0 < a) (hb : 0 < b) (h1 : a ∣ m) (h2 : b ∣ m) : lc a b ∣ m := by
  have gp := gcd_pos' (a := a) hb
  have e := Int.ediv_mul_cancel (Int.gcd_dvd_left (a := a) (b := b))
  have e2 := Int.ediv_mul_cancel (Int.gcd_dvd_right (a := a) (b := b))
  have hl : lc a b = (Int.lcm a b : Int) := by
    have h := Int.gcd_mul_lcm a b
    have h' : (Int.gcd a b : Int) * (Int.lcm a b : Int) = a * b := by
      have hh : ((Int.gcd a b * Int.lcm a b : Nat) : Int) = ((a * b).natAbs : Int) := by rw [h, Int.natAbs_mul]
      rw [Int.natCast_mul] at hh
      rw [hh]
      have := Int.mul_pos ha hb
      omega
    refine Int.eq_of_mul_eq_mul_left (show (Int.gcd a b : Int) ≠ 0 by omega) ?_
    rw [h']
    unfold lc g0
    rw [← Int.mul_assoc, Int.mul_comm (Int.gcd a b : Int), e]
  rw [hl]
  have h3 : m.natAbs = m.natAbs := rfl
  have : Int.lcm a b ∣ m.natAbs := Nat.lcm_dvd (Int.natAbs_dvd_natAbs.mpr h1) (Int.natAbs_dvd_natAbs.mpr h2)
  exact Int.ofNat_dvd_left.mpr this
def lcmL (ns : List Int) : Int := ns.foldl lc 1
abbrev PosL (ns : List Int) : Prop := ∀ n ∈ ns, (0 : Int) < n
theorem fold_lc : ∀ (ns : List Int) (a : Int), 0 < a → PosL ns → 0 < ns.foldl lc a ∧ ∀ m, ns.foldl lc a ∣ m ↔ a ∣ m ∧ ∀ n ∈ ns, n ∣ m
  | [], a, h, _ => ⟨h, fun m => ⟨fun z => ⟨z, fun _ q => nomatch q⟩, fun z => z.1⟩⟩
  | n :: r, a, h, hp => by
    have hn : 0 < n := hp n List.mem_cons_self
    obtain ⟨h1, h2⟩ := fold_lc r (lc a n) (lc_pos h hn) fun m q => hp m (List.mem_cons_of_mem _ q)
    refine ⟨h1, fun m => ?_⟩
    rw [List.foldl_cons, h2]
    constructor
    · rintro ⟨z, q⟩
      refine ⟨Int.dvd_trans lc_l z, fun x hx => ?_⟩
      rcases List.mem_cons.mp hx with rfl | hx
      · exact Int.dvd_trans lc_r z
      · exact q x hx
    · rintro ⟨z, q⟩
      exact ⟨lc_dvd h hn z (q n List.mem_cons_self), fun x hx => q x (List.mem_cons_of_mem _ hx)⟩
theorem lcmL_pos {ns : List Int} (h : PosL ns) : 0 < lcmL ns := (fold_lc ns 1 (by decide) h).1
theorem lcmL_dvd {ns : List Int} (h : PosL ns) {m : Int} : lcmL ns ∣ m ↔ ∀ n ∈ ns, n ∣ m := by
  have := (fold_lc ns 1 (by decide) h).2 m
  unfold lcmL
  rw [this]
  exact ⟨fun z => z.2, fun z => ⟨Int.one_dvd m, z⟩⟩
theorem lcmL_self {ns : List Int} (h : PosL ns) {n : Int} (hn : n ∈ ns) : n ∣ lcmL ns := (lcmL_dvd h).mp (Int.dvd_refl _) n hn
theorem lcmL_le {ns ms : List Int} (h : PosL ns) (h' : PosL ms) (s : ∀ n ∈ ns, n ∈ ms) : lcmL ns ≤ lcmL ms :=
  Int.le_of_dvd (lcmL_pos h') ((lcmL_dvd h).mpr fun n q => lcmL_self h' (s n q))
theorem lcmL_bound : ∀ {ns : List Int} {k : Nat}, (∀ n ∈ ns, (1 : Int) ≤ n ∧ n ≤ 1000) → ns.length ≤ k → lcmL ns ≤ 1000 ^ k := by
  have key : ∀ (ns : List Int) (a : Int) (j : Nat), 0 < a → a ≤ 1000 ^ j → (∀ n ∈ ns, (1 : Int) ≤ n ∧ n ≤ 1000) → ns.foldl lc a ≤ 1000 ^ (j + ns.length) := by
    intro ns
    induction ns with
    | nil => intro a j _ h _; exact h
    | cons n r ih =>
      intro a j h0 h hp
      obtain ⟨h1, h2⟩ := hp n List.mem_cons_self
      have e : lc a n ≤ 1000 ^ (j + 1) := by
        refine Int.le_trans (Int.le_of_dvd (Int.mul_pos h0 (by omega)) (lc_dvd h0 (by omega) (Int.dvd_mul_right ..) (Int.dvd_mul_left ..))) ?_
        rw [Int.pow_succ]
        exact Int.mul_le_mul h h2 (by omega) (Int.pow_nonneg (by decide))
      have := ih (lc a n) (j + 1) (lc_pos h0 (by omega)) e fun m q => hp m (List.mem_cons_of_mem _ q)
      rw [List.foldl_cons, List.length_cons, show j + (r.length + 1) = j + 1 + r.length by omega]
      exact this
  intro ns k h hk
  have h1 := key ns 1 0 (by decide) (by decide) h
  rw [Nat.zero_add] at h1
  refine Int.le_trans h1 ?_
  have : ∀ d a : Nat, (1000 : Int) ^ a ≤ 1000 ^ (a + d) := by
    intro d
    induction d with
    | zero => intro a; exact Int.le_refl _
    | succ d ih =>
      intro a
      refine Int.le_trans (ih a) ?_
      rw [← Nat.add_assoc, Int.pow_succ]
      have : (0 : Int) ≤ 1000 ^ (a + d) := Int.pow_nonneg (by decide)
      omega
  have := this (k - ns.length) ns.length
  rw [show ns.length + (k - ns.length) = k by omega] at this
  exact this

/-! # two sides of halves -/
/-- those that a mask has -/
def sel : List Bool → List Int → List Int
  | b :: m, h :: r => if b then h :: sel m r else sel m r
  | _, _ => []
def nots (m : List Bool) : List Bool := m.map (!·)
theorem nots_nots (m : List Bool) : nots (nots m) = m := by
  unfold nots; rw [List.map_map]
  conv => { rhs; rw [← List.map_id m] }
  refine List.map_congr_left fun b _ => ?_
  cases b <;> rfl
theorem nots_len (m : List Bool) : (nots m).length = m.length := List.length_map ..
theorem sel_sub : ∀ {m : List Bool} {hs : List Int} {h : Int}, h ∈ sel m hs → h ∈ hs
  | [], _, _, q => by simp [sel] at q
  | _ :: _, [], _, q => by simp [sel] at q
  | b :: m, x :: r, h, q => by
    unfold sel at q
    cases b with
    | true =>
      rcases List.mem_cons.mp q with rfl | q
      · exact List.mem_cons_self
      · exact List.mem_cons_of_mem _ (sel_sub q)
    | false => exact List.mem_cons_of_mem _ (sel_sub q)
theorem sel_pos {m : List Bool} {hs : List Int} (h : PosL hs) : PosL (sel m hs) := fun n q => h n (sel_sub q)
theorem sel_or : ∀ {m : List Bool} {hs : List Int} {h : Int}, m.length = hs.length → h ∈ hs → h ∈ sel m hs ∨ h ∈ sel (nots m) hs
  | [], [], _, _, q => nomatch q
  | b :: m, x :: r, h, e, q => by
    have e' : m.length = r.length := by simpa using e
    have s1 : sel (b :: m) (x :: r) = if b then x :: sel m r else sel m r := rfl
    have s2 : sel (nots (b :: m)) (x :: r) = if !b then x :: sel (nots m) r else sel (nots m) r := rfl
    rw [s1, s2]
    rcases List.mem_cons.mp q with rfl | q
    · cases b
      · exact .inr List.mem_cons_self
      · exact .inl List.mem_cons_self
    · rcases sel_or e' q with z | z
      · left; cases b
        · exact z
        · exact List.mem_cons_of_mem _ z
      · right; cases b
        · exact List.mem_cons_of_mem _ z
        · exact z
theorem sel_len : ∀ {m : List Bool} {hs : List Int}, (sel m hs).length ≤ hs.length
  | [], _ => by simp [sel]
  | _ :: _, [] => by simp [sel]
  | b :: m, x :: r => by
    have := sel_len (m := m) (hs := r)
    unfold sel
    split <;> simp <;> omega
theorem sel_nil : ∀ {m : List Bool} {hs : List Int}, m.length = hs.length → (sel m hs = [] ↔ true ∉ m)
  | [], [], _ => by simp [sel]
  | b :: m, x :: r, e => by
    have e' : m.length = r.length := by simpa using e
    have ih := sel_nil e'
    cases b <;> simp [sel, ih]
theorem sel_nil' {m : List Bool} {hs : List Int} (e : m.length = hs.length) : sel (nots m) hs = [] ↔ false ∉ m := by
  rw [sel_nil (by rw [nots_len]; exact e)]
  unfold nots
  simp
/-- the pairs of both sides' least common multiples -/
def Spl (hs : List Int) (a b : Int) : Prop := ∃ m : List Bool, m.length = hs.length ∧ sel m hs ≠ [] ∧ sel (nots m) hs ≠ [] ∧ a = lcmL (sel m hs) ∧ b = lcmL (sel (nots m) hs)
theorem Spl.swap {hs : List Int} {a b : Int} (h : Spl hs a b) : Spl hs b a := by
  obtain ⟨m, h1, h2, h3, h4, h5⟩ := h
  exact ⟨nots m, by rw [nots_len]; exact h1, h3, by rw [nots_nots]; exact h2, h5, by rw [nots_nots]; exact h4⟩
theorem Spl.pos {hs : List Int} (hp : PosL hs) {a b : Int} (h : Spl hs a b) : 0 < a ∧ 0 < b := by
  obtain ⟨m, h1, h2, h3, h4, h5⟩ := h
  rw [h4, h5]
  exact ⟨lcmL_pos (sel_pos hp), lcmL_pos (sel_pos hp)⟩
theorem Spl.le {hs : List Int} (hp : PosL hs) {a b : Int} (h : Spl hs a b) : a ≤ lcmL hs ∧ b ≤ lcmL hs := by
  obtain ⟨m, h1, h2, h3, h4, h5⟩ := h
  rw [h4, h5]
  exact ⟨lcmL_le (sel_pos hp) hp fun _ => sel_sub, lcmL_le (sel_pos hp) hp fun _ => sel_sub⟩
/-- each half goes into the one or the other -/
theorem Spl.dvd {hs : List Int} (hp : PosL hs) {a b : Int} (h : Spl hs a b) {n : Int} (hn : n ∈ hs) : n ∣ a ∨ n ∣ b := by
  obtain ⟨m, h1, h2, h3, h4, h5⟩ := h
  rw [h4, h5]
  exact (sel_or h1 hn).imp (lcmL_self (sel_pos hp)) (lcmL_self (sel_pos hp))
/-- a number that alike ones have: of each half, one of two -/
theorem spl_of {hs : List Int} (hp : PosL hs) (p q : Int → Prop) (h : ∀ n ∈ hs, p n ∨ q n) :
    (∀ n ∈ hs, p n) ∨ (∀ n ∈ hs, q n) ∨ ∃ m : List Bool, m.length = hs.length ∧ sel m hs ≠ [] ∧ sel (nots m) hs ≠ [] ∧ (∀ n ∈ sel m hs, p n) ∧ ∀ n ∈ sel (nots m) hs, q n := by
  have key : ∀ hs : List Int, (∀ n ∈ hs, p n ∨ q n) → ∃ m : List Bool, m.length = hs.length ∧ (∀ n ∈ sel m hs, p n) ∧ ∀ n ∈ sel (nots m) hs, q n := by
    intro hs
    induction hs with
    | nil => intro _; exact ⟨[], rfl, fun _ z => by simp [sel] at z, fun _ z => by simp [sel, nots] at z⟩
    | cons x r ih =>
      intro h
      obtain ⟨m, h1, h2, h3⟩ := ih fun n z => h n (List.mem_cons_of_mem _ z)
      rcases h x List.mem_cons_self with c | c
      · refine ⟨true :: m, by simp [h1], fun n z => ?_, h3⟩
        rcases List.mem_cons.mp z with rfl | z
        · exact c
        · exact h2 n z
      · refine ⟨false :: m, by simp [h1], h2, fun n z => ?_⟩
        rcases List.mem_cons.mp z with rfl | z
        · exact c
        · exact h3 n z
  obtain ⟨m, h1, h2, h3⟩ := key hs h
  by_cases c1 : sel m hs = []
  · refine .inr (.inl fun n z => h3 n ?_)
    rcases sel_or h1 z with y | y
    · rw [c1] at y; cases y
    · exact y
  · by_cases c2 : sel (nots m) hs = []
    · refine .inl fun n z => h2 n ?_
      rcases sel_or h1 z with y | y
      · exact y
      · rw [c2] at y; cases y
    · exact .inr (.inr ⟨m, h1, c1, c2, h2, h3⟩)
/-- one half more -/
theorem Spl.snoc {hs : List Int} (hp : PosL hs) {h : Int} (h0 : 0 < h) {a b : Int} (s : Spl (hs ++ [h]) a b) : lcmL hs ≤ a + b ∨ ∃ a' b', Spl hs a' b' ∧ a' ≤ a ∧ b' ≤ b := by
  have hq : PosL (hs ++ [h]) := fun n z => by
    rcases List.mem_append.mp z with z | z
    · exact hp n z
    · rw [List.mem_singleton.mp z]; exact h0
  have ap := s.pos hq
  have dv := fun n (hn : n ∈ hs) => s.dvd hq (List.mem_append_left [h] hn)
  rcases spl_of hp (fun n => n ∣ a) (fun n => n ∣ b) dv with c | c | ⟨m, h1, h2, h3, h4, h5⟩
  · left
    have := Int.le_of_dvd ap.1 ((lcmL_dvd hp).mpr c)
    omega
  · left
    have := Int.le_of_dvd ap.2 ((lcmL_dvd hp).mpr c)
    omega
  · right
    exact ⟨_, _, ⟨m, h1, h2, h3, rfl, rfl⟩, Int.le_of_dvd ap.1 ((lcmL_dvd (sel_pos hp)).mpr h4), Int.le_of_dvd ap.2 ((lcmL_dvd (sel_pos hp)).mpr h5)⟩
/-! # the program's -/
/-- a list or a tuple of ints -/
def isSeq (d : D) (ns : List Int) : Prop := d = .lst (ns.map .int) ∨ d = .tup (ns.map .int)
def HsOk (hs : List Int) : Prop := hs ≠ [] ∧ hs.length ≤ 6 ∧ ∀ n ∈ hs, (1 : Int) ≤ n ∧ n ≤ 1000
def SmOk (hs : List Int) : Prop := hs.length ≤ 6 ∧ ∀ n ∈ hs, (1 : Int) ≤ n ∧ n ≤ 1000
theorem HsOk.sm {hs : List Int} (h : HsOk hs) : SmOk hs := h.2
theorem SmOk.pos {hs : List Int} (h : SmOk hs) : PosL hs := fun n q => by have := h.2 n q; omega
theorem SmOk.sel {hs : List Int} (h : SmOk hs) (m : List Bool) : SmOk (sel m hs) := ⟨Nat.le_trans sel_len h.1, fun n q => h.2 n (sel_sub q)⟩
theorem SmOk.lcm {hs : List Int} (h : SmOk hs) : 0 < lcmL hs ∧ lcmL hs ≤ 10 ^ 18 := ⟨lcmL_pos h.pos, Int.le_trans (lcmL_bound h.2 h.1) (by decide)⟩
def sp_multiple (C : Cl) : PSp := fun ds M q _ => ar1 ds fun d => ∃ ns, isSeq d ns ∧ SmOk ns ∧ q (.int (lcmL ns)) M
def rd_multiple (C : Cl) : PTS := (dSeq (dSet 1 (dC (.int 1)))
    (dSeq (dFor (iA (dVar 0)) (gNm 2) (dSet 1 (dOp fMul (dOp fDiv (dVar 1) (dCall (sp_divisor C) [] (dCons (dVar 1) (dCons (dVar 2) dNil)))) (dVar 2))))
    (dRet (dVar 1))))
/-- what a loop over it walks -/
theorem iA_seq {d : D} {ns : List Int} {w : PWi} {ρ : Rho} {M : Mm} {pe : PTE} {q : List D → Mm → Prop} (hd : isSeq d ns) (he : ∀ q' : PQ, q' d M → pe w ρ M q') (h : q (ns.map .int) M) : iA pe w ρ M q := by
  refine he _ ?_
  rcases hd with rfl | rfl <;> exact h
theorem lc_step {ns rs : List Int} {a n : Int} (hn : SmOk ns) (ha : 0 < a) (hl : lcmL ns = (n :: rs).foldl lc a) (hp : ∀ x ∈ n :: rs, (1 : Int) ≤ x ∧ x ≤ 1000) :
    a ≤ 10 ^ 18 ∧ 0 < lc a n ∧ lcmL ns = rs.foldl lc (lc a n) := by
  have pp : PosL (n :: rs) := fun x q => by have := hp x q; omega
  have hd := ((fold_lc (n :: rs) a ha pp).2 (lcmL ns)).mp (hl ▸ Int.dvd_refl _)
  have hb := hn.lcm
  have := Int.le_of_dvd hb.1 hd.1
  exact ⟨by omega, lc_pos ha (pp n List.mem_cons_self), hl⟩
theorem sh_multiple (C : Cl) : Shows (sp_multiple C) 3 (rd_multiple C) := by
  intro ds M q e h
  obtain ⟨d, rfl, ns, hd, hn, hq⟩ := ar1_of h
  dsimp only [rd_multiple, dSeq, dInN, dPutN, dGetN, dNewN, dCallL, dCallLK, dRetL, dRetOwn, dNext, dSet, dSetO, dRet, dRetN, dDrop, dIfS, dFor, dPar, dPar3, dParL2, dParL3, dAsg, dFrz, dIf, dTst, dOp, dVar, dOwn, dC, dB1, dG1, dL, dLst, dCons, dNil, dTup, dCall, dCallK, dAnd, dOr, dNot, dAndV, dOrV, dNotV, dNeg, dChain, dNever, dNeverS, dRaise, dYes, gNm, gsCons, gsNil, gTp, gt, st, fAdd, fSub, fMul, fDiv, fMod, fPow, fShl, fShr, fCmp, fEq, fNe, fEqS, fNeS, fIs, fIsNot, fLen, fMin, fMax, fMin2, fMax2, fAll, fAny, fAbs, fTup, fRepr, fIx, atD, isB, ls2, ls3, startR, ar1, ar2, ar3, ar4, asI, asT, asL, asDraw, sp_take, sp_pick, sp_begin, List.map, List.append, List.replicate, List.length, List.cons_append, List.nil_append, Nat.sub_self, Nat.reduceSub, Nat.reduceAdd, dApp, isOwn, appR, dSl, dPt, dNo, slR, asIn, List.map_cons, List.map_nil]
  refine iA_seq (pe := dVar 0) hd (by exact fun q' h => h) ?_
  refine forR_ind (fun rem ρ M' => M' = M ∧ ∃ (a : Int) (rs : List Int) (x2 : Option Sv), ρ = [some (.val d), some (.val (.int a)), x2] ∧ rem = rs.map .int ∧ 0 < a ∧ lcmL ns = rs.foldl lc a ∧ ∀ n ∈ rs, (1 : Int) ≤ n ∧ n ≤ 1000) ?_ ?_ _ _ _ ⟨rfl, 1, ns, _, rfl, rfl, by decide, rfl, hn.2⟩
  · rintro x r ρ M' ⟨rfl, a, rs, x2, rfl, hr, ha, hl, hp⟩ F hF
    cases rs with
    | nil => cases hr
    | cons n rs =>
      cases hr
      obtain ⟨s1, s2, s3⟩ := lc_step hn ha hl hp
      have hn1 := hp n List.mem_cons_self
      haveI : SzB 60 a := SzB.of (by omega) (by omega)
      have gp := g0_pos (x := a) (show 0 < n by omega)
      have gl := g0_le (x := a) (show 0 < n by omega)
      haveI : SzB 10 n := SzB.of (by omega) (by omega)
      haveI : SzB 10 (g0 a n) := SzB.of (by omega) (by omega)
      dsimp only [sp_divisor, dSeq, dInN, dPutN, dGetN, dNewN, dCallL, dCallLK, dRetL, dRetOwn, dNext, dSet, dSetO, dRet, dRetN, dDrop, dIfS, dFor, dPar, dPar3, dParL2, dParL3, dAsg, dFrz, dIf, dTst, dOp, dVar, dOwn, dC, dB1, dG1, dL, dLst, dCons, dNil, dTup, dCall, dCallK, dAnd, dOr, dNot, dAndV, dOrV, dNotV, dNeg, dChain, dNever, dNeverS, dRaise, dYes, iR1, iR2, iA, iEA, iL, iT, gNm, gsCons, gsNil, gTp, gt, st, fAdd, fSub, fMul, fDiv, fMod, fPow, fShl, fShr, fCmp, fEq, fNe, fEqS, fNeS, fIs, fIsNot, fLen, fMin, fMax, fMin2, fMax2, fAll, fAny, fAbs, fTup, fRepr, fIx, atD, isB, ls2, ls3, startR, ar1, ar2, ar3, ar4, asI, asT, asL, asDraw, sp_take, sp_pick, sp_begin, List.map, List.append, List.replicate, List.length, List.cons_append, List.nil_append, Nat.sub_self, Nat.reduceSub, Nat.reduceAdd, dApp, isOwn, appR, dSl, dPt, dNo, slR, asIn, List.map_cons, List.map_nil]
      exact ⟨by omega, by omega, (SzB.divX (by omega) inferInstance), (SzB.mulX inferInstance inferInstance), hF _ _ ⟨rfl, lc a n, rs, _, rfl, rfl, s2, s3, fun x q => hp x (List.mem_cons_of_mem _ q)⟩⟩
  · rintro ρ M' ⟨rfl, a, rs, x2, rfl, hr, ha, hl, hp⟩
    have e0 : rs = [] := by cases rs with | nil => rfl | cons => cases hr
    subst e0
    have hl : lcmL ns = a := hl
    exact ⟨M', MLe.refl _, hl ▸ hq⟩
/-! ## halves that are as they should be -/
def sp_need_halves (C : Cl) : PSp := fun ds M q _ => ar1 ds fun d => ∃ hs, isSeq d hs ∧ HsOk hs ∧ q .non M
def rd_need_halves (C : Cl) : PTS := (dSeq (dIfS (dOr (dNot (dTst (dB1 (fIsi2 "list" "tuple") (dVar 0)))) (dTst (dOp fEq (dB1 fLen (dVar 0)) (dC (.int 0))))) dNeverS dNext)
    (dFor (iEA (dVar 0)) (gTp 2 (gsCons (gNm 1) (gsCons (gNm 2) gsNil))) (dIfS (dOr (dTst (dOp fEq (dVar 1) (dC (.int 6)))) (dNot (dTst (dCall (sp_is_half C) [] (dCons (dVar 2) dNil))))) dNeverS dNext)))
theorem eqI (i j : Int) : eqD (.int i) (.int j) = decide (i = j) := rfl
theorem btw_half {n : Int} (h : 1 ≤ n ∧ n ≤ 1000) : btwD (.int n) 1 1000 = true := by
  show (decide (1 ≤ n) && decide (n ≤ 1000)) = true
  rw [decide_eq_true h.1, decide_eq_true h.2]; rfl
theorem sh_need_halves (C : Cl) : Shows (sp_need_halves C) 3 (rd_need_halves C) := by
  intro ds M q e h
  obtain ⟨d, rfl, hs, hd, ⟨hh0, hh1, hh2⟩, hq⟩ := ar1_of h
  have hlen : (hs.map D.int).length = hs.length := List.length_map ..
  have hne : hs.length ≠ 0 := fun z => hh0 (List.eq_nil_of_length_eq_zero z)
  have body : ∀ x1 x2 : Option Sv, forR (gTp 2 (gsCons (gNm 1) (gsCons (gNm 2) gsNil))) (dIfS (dOr (dTst (dOp fEq (dVar 1) (dC (.int 6)))) (dNot (dTst (dCall (sp_is_half C) [] (dCons (dVar 2) dNil))))) dNeverS dNext)
      (fun cls fs _ M' => ∃ M2, MLe M2 M' ∧ e cls fs M2) (enumD 0 (hs.map .int)) { nx := fun _ M' => ∃ M2, MLe M2 M' ∧ q .non M2, rt := fun d M' => ∃ M2, MLe M2 M' ∧ q d M2 } [some (.val d), x1, x2] M := by
    intro x1 x2
    refine forR_ix (fun _ ρ M' => M' = M ∧ ∃ (x1 x2 : Option Sv), ρ = [some (.val d), x1, x2]) _ 0 ?_ ?_ _ _ ⟨rfl, _, _, rfl⟩
    · rintro i x hx F hF ρ M' ⟨rfl, x1, x2, rfl⟩
      rw [enumD_get, List.getElem?_map] at hx
      obtain ⟨n, hn⟩ : ∃ n, hs[i]? = some n := by
        cases c : hs[i]? with
        | none => rw [c] at hx; cases hx
        | some n => exact ⟨n, rfl⟩
      rw [hn] at hx
      obtain ⟨hi, e1⟩ := List.getElem?_eq_some_iff.mp hn
      have hm := hh2 n (e1 ▸ List.getElem_mem hi)
      cases hx
      refine ⟨rfl, rfl, itF (by rw [eqI]; exact decide_eq_false (by omega)) ⟨rfl, itF (by rw [btw_half hm]; rfl) (hF _ _ ⟨rfl, _, _, rfl⟩)⟩⟩
    · rintro ρ M' ⟨rfl, x1, x2, rfl⟩
      exact ⟨M', MLe.refl _, hq⟩
  rcases hd with rfl | rfl
  · exact ⟨rfl, itF (by rw [eqI, hlen]; exact decide_eq_false (by omega)) (body _ _)⟩
  · exact ⟨rfl, itF (by rw [eqI, hlen]; exact decide_eq_false (by omega)) (body _ _)⟩
/-! ## the two sides, by numbers -/
def bits : Nat → Nat → List Bool
  | _, 0 => []
  | x, n + 1 => (x % 2 == 1) :: bits (x / 2) n
theorem bits_len : ∀ (n x : Nat), (bits x n).length = n
  | 0, _ => rfl
  | n + 1, x => by show (bits (x / 2) n).length + 1 = _; rw [bits_len n]
theorem bits_sur : ∀ m : List Bool, ∃ x, x < 2 ^ m.length ∧ bits x m.length = m
  | [] => ⟨0, by decide, rfl⟩
  | b :: m => by
    obtain ⟨x, h1, h2⟩ := bits_sur m
    refine ⟨2 * x + (if b then 1 else 0), ?_, ?_⟩
    · rw [List.length_cons, Nat.pow_succ]
      cases b <;> simp <;> omega
    · show ((2 * x + (if b then 1 else 0)) % 2 == 1) :: bits ((2 * x + (if b then 1 else 0)) / 2) m.length = _
      have e1 : (2 * x + (if b then 1 else 0)) / 2 = x := by cases b <;> simp <;> omega
      have e2 : ((2 * x + (if b then 1 else 0)) % 2 == 1) = b := by cases b <;> simp <;> omega
      rw [e1, e2, h2]
theorem bits_zero : ∀ (n x : Nat), x < 2 ^ n → (true ∉ bits x n ↔ x = 0)
  | 0, x, h => by simp [bits]; omega
  | n + 1, x, h => by
    have e : bits x (n + 1) = (x % 2 == 1) :: bits (x / 2) n := rfl
    rw [e, List.mem_cons]
    have ih := bits_zero n (x / 2) (by rw [Nat.pow_succ] at h; omega)
    constructor
    · intro z
      have z1 : ¬ (x % 2 = 1) := fun y => z (.inl (by simp [y]))
      have z2 := ih.mp fun y => z (.inr y)
      omega
    · rintro rfl z
      rcases z with z | z
      · simp at z
      · exact ih.mpr rfl z
theorem bits_full : ∀ (n x : Nat), x < 2 ^ n → (false ∉ bits x n ↔ x + 1 = 2 ^ n)
  | 0, x, h => by simp [bits]; omega
  | n + 1, x, h => by
    have e : bits x (n + 1) = (x % 2 == 1) :: bits (x / 2) n := rfl
    rw [e, List.mem_cons]
    have hp : 2 ^ (n + 1) = 2 * 2 ^ n := by rw [Nat.pow_succ]; omega
    have ih := bits_full n (x / 2) (by omega)
    constructor
    · intro z
      have z1 : x % 2 = 1 := by
        by_cases c : x % 2 = 1
        · exact c
        · exact absurd (Or.inl (by simp; omega)) z
      have z2 := ih.mp fun y => z (.inr y)
      omega
    · intro z y
      rcases y with y | y
      · have : ¬ x % 2 = 1 := by simpa using y.symm
        omega
      · exact ih.mpr (by omega) y
def splP (hs : List Int) : List (Int × Int) := (List.range (2 ^ hs.length - 2)).map fun k => (lcmL (sel (bits (k + 1) hs.length) hs), lcmL (sel (nots (bits (k + 1) hs.length)) hs))
theorem mem_splP {hs : List Int} {a b : Int} : (a, b) ∈ splP hs ↔ Spl hs a b := by
  unfold splP
  rw [List.mem_map]
  constructor
  · rintro ⟨k, hk, e⟩
    rw [List.mem_range] at hk
    have lt : k + 1 < 2 ^ hs.length := by omega
    refine ⟨bits (k + 1) hs.length, bits_len _ _, ?_, ?_, (Prod.mk.inj e).1.symm, (Prod.mk.inj e).2.symm⟩
    · rw [Ne, sel_nil (bits_len _ _), bits_zero _ _ lt]; omega
    · rw [Ne, sel_nil' (bits_len _ _), bits_full _ _ lt]; omega
  · rintro ⟨m, h1, h2, h3, rfl, rfl⟩
    obtain ⟨x, hx, e⟩ := bits_sur m
    rw [h1] at hx e
    rw [Ne, sel_nil h1, ← e, bits_zero _ _ hx] at h2
    rw [Ne, sel_nil' h1, ← e, bits_full _ _ hx] at h3
    have e2 : x - 1 + 1 = x := by omega
    exact ⟨x - 1, by rw [List.mem_range]; omega, by rw [e2, e]⟩
/-- what the program's comprehension over places takes -/
theorem sel_enum (v : Bool) (x : Nat) (c : D → Bool) : ∀ (hs : List Int) (s : Nat), (∀ i n, c (.tup [.int ((s + i : Nat) : Int), n]) = ((x / 2 ^ (s + i) % 2 == 1) == v)) →
    (enumD s (hs.map .int)).filterMap (fun d => match d with | .tup [_, n] => if c d then some n else none | _ => none) = (sel (if v then bits (x / 2 ^ s) hs.length else nots (bits (x / 2 ^ s) hs.length)) hs).map .int
  | [], s, _ => by cases v <;> rfl
  | h :: r, s, hc => by
    have ih := sel_enum v x c r (s + 1) fun i n => by
      have := hc (i + 1) n
      rw [show s + 1 + i = s + (i + 1) by omega]
      exact this
    have e1 : bits (x / 2 ^ s) (h :: r).length = (x / 2 ^ s % 2 == 1) :: bits (x / 2 ^ (s + 1)) r.length := by
      show _ :: bits (x / 2 ^ s / 2) r.length = _
      rw [Nat.div_div_eq_div_mul, ← Nat.pow_succ]
    have e2 : enumD s ((h :: r).map .int) = .tup [.int (s : Int), .int h] :: enumD (s + 1) (r.map .int) := rfl
    have hc0 := hc 0 (.int h)
    rw [Nat.add_zero] at hc0
    rw [e1, e2, List.filterMap_cons]
    dsimp only
    rw [hc0, ih]
    cases v <;> cases (x / 2 ^ s % 2 == 1) <;> rfl
def sp_splits (C : Cl) : PSp := fun ds M q _ => ar1 ds fun d => ∃ hs, isSeq d hs ∧ SmOk hs ∧ hs ≠ [] ∧ q (.lst ((splP hs).map fun p => .tup [.int p.1, .int p.2])) M
def rd_splits (C : Cl) : PTS := (dSeq (dSetO 1 (dLst dNil))
    (dSeq (dFor (iR2 (dC (.int 1)) (dOp fSub (dOp fShl (dC (.int 1)) (dB1 fLen (dVar 0))) (dC (.int 1)))) (gNm 2) (dSeq (dSet 3 (dL (dComp [5, 6] (iEA (dVar 0)) (gTp 2 (gsCons (gNm 5) (gsCons (gNm 6) gsNil))) (dTst (dOp fEq (dOp fMod (dOp fShr (dVar 2) (dVar 5)) (dC (.int 2))) (dC (.int 1)))) (dVar 6))))
    (dSeq (dSet 4 (dL (dComp [5, 6] (iEA (dVar 0)) (gTp 2 (gsCons (gNm 5) (gsCons (gNm 6) gsNil))) (dTst (dOp fEq (dOp fMod (dOp fShr (dVar 2) (dVar 5)) (dC (.int 2))) (dC (.int 0)))) (dVar 6))))
    (dApp 1 (dTup (dCons (dCall (sp_multiple C) [] (dCons (dVar 3) dNil)) (dCons (dCall (sp_multiple C) [] (dCons (dVar 4) dNil)) dNil)))))))
    (dFrz 1 (dRet (dVar 1)))))
theorem div_pow_mod (x i : Nat) : (((x : Nat) : Int) / 2 ^ ((i : Nat) : Int).toNat) % 2 = ((x / 2 ^ i % 2 : Nat) : Int) := by
  rw [Int.toNat_natCast, Int.natCast_emod, Int.natCast_ediv, Int.natCast_pow]; rfl
/-- one of the two comprehensions -/
theorem comp_side {ρ0 : Rho} {M : Mm} {q : List D → Mm → Prop} (x : Nat) (y : Int) (v : Bool) (hy : y = if v then 1 else 0) (hs : List Int) (hl : hs.length ≤ 6) (x0 x1 x3 x4 : Option Sv)
    (hq : q ((sel (if v then bits x hs.length else nots (bits x hs.length)) hs).map .int) M) :
    compR (gTp 2 (gsCons (gNm 5) (gsCons (gNm 6) gsNil))) (dTst (dOp fEq (dOp fMod (dOp fShr (dVar 2) (dVar 5)) (dC (.int 2))) (dC (.int y)))) (dVar 6) [x0, x1, some (.val (.int (x : Int))), x3, x4, none, none] (enumD 0 (hs.map .int)) [] M q := by
  have key := sel_enum v x (fun d => match d with | .tup [.int i, _] => decide ((x : Int) / 2 ^ i.toNat % 2 = y) | _ => false) hs 0 fun i n => by
    show decide ((x : Int) / 2 ^ (((0 + i : Nat) : Int)).toNat % 2 = y) = _
    rw [div_pow_mod, hy]
    have : x / 2 ^ (0 + i) % 2 < 2 := Nat.mod_lt _ (by decide)
    generalize x / 2 ^ (0 + i) % 2 = z at *
    have hz : z = 0 ∨ z = 1 := by omega
    rcases hz with rfl | rfl <;> cases v <;> rfl
  rw [Nat.pow_zero, Nat.div_one] at key
  refine compR_fm _ _ [] (fun d hd kt kf k => ?_) ?_ (by rw [List.nil_append, key]; exact hq)
  · obtain ⟨i, hi⟩ := List.getElem?_of_mem hd
    rw [enumD_get, List.getElem?_map] at hi
    cases c : hs[i]? with
    | none => rw [c] at hi; cases hi
    | some n =>
      rw [c] at hi
      cases hi
      refine ⟨rfl, Int.natCast_nonneg _, by decide, rfl, ?_⟩
      dsimp only [dSeq, dInN, dPutN, dGetN, dNewN, dCallL, dCallLK, dRetL, dRetOwn, dNext, dSet, dSetO, dRet, dRetN, dDrop, dIfS, dFor, dPar, dPar3, dParL2, dParL3, dAsg, dFrz, dIf, dTst, dOp, dVar, dOwn, dC, dB1, dG1, dL, dLst, dCons, dNil, dTup, dCall, dCallK, dAnd, dOr, dNot, dAndV, dOrV, dNotV, dNeg, dChain, dNever, dNeverS, dRaise, dYes, iR1, iR2, iA, iEA, iL, iT, gNm, gsCons, gsNil, gTp, gt, st, fAdd, fSub, fMul, fDiv, fMod, fPow, fShl, fShr, fCmp, fEq, fNe, fEqS, fNeS, fIs, fIsNot, fLen, fMin, fMax, fMin2, fMax2, fAll, fAny, fAbs, fTup, fRepr, fIx, atD, isB, ls2, ls3, startR, ar1, ar2, ar3, ar4, asI, asT, asL, asDraw, sp_take, sp_pick, sp_begin, List.map, List.append, List.replicate, List.length, List.cons_append, List.nil_append, Nat.sub_self, Nat.reduceSub, Nat.reduceAdd, dApp, isOwn, appR, dSl, dPt, dNo, slR, asIn, List.map_cons, List.map_nil]
      by_cases c : (x : Int) / 2 ^ (((0 + i : Nat) : Int)).toNat % 2 = y
      · have k : kt (.int n) M := by
          simp only [decide_eq_true c, if_true] at k
          exact k
        exact itT (decide_eq_true c) k
      · have k : kf M := by
          simp only [decide_eq_false c, Bool.false_eq_true, if_false] at k
          exact k
        exact itF (decide_eq_false c) k
  · rw [enumD_len, List.length_map]
    show 0 + hs.length ≤ _
    omega
theorem len_iR {d : D} {ns : List Int} {k : D → Prop} (hd : isSeq d ns) (h : k (.int ns.length)) : fLen d k := by
  have e : (ns.map D.int).length = ns.length := List.length_map ..
  rcases hd with rfl | rfl
  · show k (.int (ns.map D.int).length); rw [e]; exact h
  · show k (.int (ns.map D.int).length); rw [e]; exact h
theorem iEA_seq {d : D} {ns : List Int} {w : PWi} {ρ : Rho} {M : Mm} {pe : PTE} {q : List D → Mm → Prop} (hd : isSeq d ns) (he : ∀ q' : PQ, q' d M → pe w ρ M q') (h : q (enumD 0 (ns.map .int)) M) : iEA pe w ρ M q := by
  refine he _ ?_
  rcases hd with rfl | rfl <;> exact h
theorem sh_splits (C : Cl) : Shows (sp_splits C) 7 (rd_splits C) := by
  intro ds M q e h
  obtain ⟨d, rfl, hs, hd, hh, hne, hq⟩ := ar1_of h
  have hl := hh.1
  have hpos : 0 < hs.length := by cases hs with | nil => exact absurd rfl hne | cons => simp
  have p6 : 2 ^ hs.length ≤ 2 ^ 6 := Nat.pow_le_pow_right (by decide) hl
  have p1 : 2 ^ 1 ≤ 2 ^ hs.length := Nat.pow_le_pow_right (by decide) hpos
  have e1 : (1 : Int) * 2 ^ ((hs.length : Nat) : Int).toNat = ((2 ^ hs.length : Nat) : Int) := by
    rw [Int.toNat_natCast, Int.one_mul, Int.natCast_pow]; rfl
  refine ⟨by decide, ?_⟩
  refine len_iR hd ⟨⟨by omega, by omega, by decide⟩, ?_⟩
  dsimp only [dSeq, dInN, dPutN, dGetN, dNewN, dCallL, dCallLK, dRetL, dRetOwn, dNext, dSet, dSetO, dRet, dRetN, dDrop, dIfS, dFor, dPar, dPar3, dParL2, dParL3, dAsg, dFrz, dIf, dTst, dOp, dVar, dOwn, dC, dB1, dG1, dL, dLst, dCons, dNil, dTup, dCall, dCallK, dAnd, dOr, dNot, dAndV, dOrV, dNotV, dNeg, dChain, dNever, dNeverS, dRaise, dYes, iR1, iR2, iA, iEA, iL, iT, gNm, gsCons, gsNil, gTp, gt, st, fAdd, fSub, fMul, fDiv, fMod, fPow, fShl, fShr, fCmp, fEq, fNe, fEqS, fNeS, fIs, fIsNot, fLen, fMin, fMax, fMin2, fMax2, fAll, fAny, fAbs, fTup, fRepr, fIx, atD, isB, ls2, ls3, startR, ar1, ar2, ar3, ar4, asI, asT, asL, asDraw, sp_take, sp_pick, sp_begin, List.map, List.append, List.replicate, List.length, List.cons_append, List.nil_append, Nat.sub_self, Nat.reduceSub, Nat.reduceAdd, dApp, isOwn, appR, dSl, dPt, dNo, slR, asIn, List.map_cons, List.map_nil]
  rw [e1]
  refine ⟨by decide, by decide, by omega, by omega, ?_⟩
  rw [show (((2 ^ hs.length : Nat) : Int) - 1 - 1).toNat = 2 ^ hs.length - 2 by omega]
  refine forR_ix (fun k ρ M' => M' = M ∧ ∃ x2 x3 x4 : Option Sv, ρ = [some (.val d), some (.own (((splP hs).take k).map fun p => .tup [.int p.1, .int p.2])), x2, x3, x4, none, none]) _ 0 ?_ ?_ _ _ ⟨rfl, _, _, _, rfl⟩
  · rintro k x hx F hF ρ M' ⟨rfl, x2, x3, x4, rfl⟩
    unfold rngD at hx
    rw [List.getElem?_map] at hx
    have hk : k < 2 ^ hs.length - 2 := by
      by_cases c : k < 2 ^ hs.length - 2
      · exact c
      · rw [List.getElem?_eq_none (by rw [List.length_range]; omega)] at hx; cases hx
    rw [List.getElem?_range hk] at hx
    cases hx
    have ex : (1 : Int) + (k : Int) = ((k + 1 : Nat) : Int) := by omega
    show gNm 2 (.int (1 + (k : Int))) _ _
    rw [ex]
    refine ⟨rfl, iEA_seq (pe := dVar 0) hd (by exact fun q' h => h) (comp_side (ρ0 := []) (k + 1) 1 true rfl hs hl _ _ _ _ ?_)⟩
    refine ⟨rfl, iEA_seq (pe := dVar 0) hd (by exact fun q' h => h) (comp_side (ρ0 := []) (k + 1) 0 false rfl hs hl _ _ _ _ ?_)⟩
    refine ⟨trivial, ⟨_, .inl rfl, hh.sel _, ⟨_, .inl rfl, hh.sel _, by simp, ?_⟩⟩⟩
    dsimp only [dSeq, dInN, dPutN, dGetN, dNewN, dCallL, dCallLK, dRetL, dRetOwn, dNext, dSet, dSetO, dRet, dRetN, dDrop, dIfS, dFor, dPar, dPar3, dParL2, dParL3, dAsg, dFrz, dIf, dTst, dOp, dVar, dOwn, dC, dB1, dG1, dL, dLst, dCons, dNil, dTup, dCall, dCallK, dAnd, dOr, dNot, dAndV, dOrV, dNotV, dNeg, dChain, dNever, dNeverS, dRaise, dYes, iR1, iR2, iA, iEA, iL, iT, gNm, gsCons, gsNil, gTp, gt, st, fAdd, fSub, fMul, fDiv, fMod, fPow, fShl, fShr, fCmp, fEq, fNe, fEqS, fNeS, fIs, fIsNot, fLen, fMin, fMax, fMin2, fMax2, fAll, fAny, fAbs, fTup, fRepr, fIx, atD, isB, ls2, ls3, startR, ar1, ar2, ar3, ar4, asI, asT, asL, asDraw, sp_take, sp_pick, sp_begin, List.map, List.append, List.replicate, List.length, List.cons_append, List.nil_append, Nat.sub_self, Nat.reduceSub, Nat.reduceAdd, dApp, isOwn, appR, dSl, dPt, dNo, slR, asIn, List.map_cons, List.map_nil]
    have hsp : (splP hs)[k]? = some (lcmL (sel (bits (k + 1) hs.length) hs), lcmL (sel (nots (bits (k + 1) hs.length)) hs)) := by
      unfold splP
      rw [List.getElem?_map, List.getElem?_range hk]; rfl
    have hE : ((splP hs).take (0 + k)).map (fun p : Int × Int => D.tup [.int p.1, .int p.2]) ++ [.tup [.int (lcmL (sel (bits (k + 1) hs.length) hs)), .int (lcmL (sel (nots (bits (k + 1) hs.length)) hs))]] = ((splP hs).take (0 + k + 1)).map fun p => .tup [.int p.1, .int p.2] := by
      rw [Nat.zero_add, List.take_add_one, hsp]
      simp
    exact ⟨by rw [List.length_map, List.length_take]; omega, hF _ _ ⟨rfl, _, _, _, congrArg (fun z => [_, some (Sv.own z), _, _, _, _, _]) hE⟩⟩
  · rintro ρ M' ⟨rfl, x2, x3, x4, rfl⟩
    refine ⟨M', MLe.refl _, ?_⟩
    have e2 : (splP hs).take (0 + (rngD 1 (2 ^ hs.length - 2)).length) = splP hs := by
      refine List.take_of_length_le ?_
      unfold splP rngD
      rw [List.length_map, List.length_map]; omega
    rw [e2]
    exact hq
end Px

set_option Elab.async false
set_option linter.all false
set_option maxRecDepth 100000
namespace Px
open PySem PySem.Spec PyProof.Rows L2
def sumsP (hs : List Int) : List Int := (splP hs).map fun p => p.1 + p.2
def endV (hs : List Int) : Int := minL (lcmL hs) (sumsP hs)
def endIn (hs : List Int) : Bool := (sumsP hs).all fun s => decide (lcmL hs < s)
def spot (lo one other : Int) : Int := -(-(lo + one) / other) * other
def fitsIn (lo hi : Int) (p : Int × Int) : Bool := decide (spot lo p.1 p.2 ≤ hi - p.1)
def pairV (hs : List Int) (lo hi : Int) : Option (Int × Int) :=
  if 2 * lcmL hs ≤ hi - lo then some (lo, lo + 2 * lcmL hs)
  else if (lo / lcmL hs + 1) * lcmL hs < hi then some ((lo / lcmL hs + 1) * lcmL hs - 1, (lo / lcmL hs + 1) * lcmL hs + 1)
  else ((splP hs).find? (fitsIn lo hi)).map fun p => (spot lo p.1 p.2 - p.1, spot lo p.1 p.2 + p.1)
def optP : Option (Int × Int) → D
  | none => .non
  | some p => .tup [.int p.1, .int p.2]
def optS : Option (Int × Int) → D
  | none => .non
  | some p => .tup [.tup [.int p.1, .int 1], .tup [.int p.2, .int 1]]
theorem splP_sm {hs : List Int} (h : SmOk hs) {p : Int × Int} (hp : p ∈ splP hs) : 0 < p.1 ∧ 0 < p.2 ∧ p.1 ≤ 10 ^ 18 ∧ p.2 ≤ 10 ^ 18 := by
  have z : Spl hs p.1 p.2 := mem_splP.mp hp
  have a := z.pos h.pos
  have b := z.le h.pos
  have c := h.lcm
  exact ⟨a.1, a.2, by omega, by omega⟩
theorem splP_len {hs : List Int} (h : SmOk hs) : (splP hs).length ≤ 62 := by
  unfold splP
  rw [List.length_map, List.length_range]
  have : 2 ^ hs.length ≤ 2 ^ 6 := Nat.pow_le_pow_right (by decide) h.1
  omega
theorem fMin_ints {n : Int} {r : List Int} {k : D → Prop} (h : k (.int (minL n r))) : fMin (.lst ((n :: r).map .int)) k := by
  show (match intsOf ((n :: r).map .int) with | some (n :: r) => k (.int (minL n r)) | _ => False)
  rw [intsOf_map]
  exact h
theorem fAll_bls {bs : List Bool} {k : D → Prop} (h : k (.bl (bs.all id))) : fAll (.lst (bs.map .bl)) k := by
  show (match boolsOf (bs.map .bl) with | some bs => k (.bl (bs.all id)) | _ => False)
  rw [boolsOf_map]
  exact h
def sp_reach (C : Cl) : PSp := fun ds M q _ => ar1 ds fun d => ∃ hs, isSeq d hs ∧ HsOk hs ∧ ∀ d, d = .tup [.int (endV hs), .bl (endIn hs)] → q d M
def rd_reach (C : Cl) : PTS := (dSeq (dDrop (dCall (sp_need_halves C) [] (dCons (dVar 0) dNil)))
    (dSeq (dSet 1 (dCall (sp_multiple C) [] (dCons (dVar 0) dNil)))
    (dSeq (dSet 2 (dL (dComp [3, 4] (iA (dCall (sp_splits C) [] (dCons (dVar 0) dNil))) (gTp 2 (gsCons (gNm 3) (gsCons (gNm 4) gsNil))) dYes (dOp fAdd (dVar 3) (dVar 4)))))
    (dRet (dTup (dCons (dB1 fMin (dOp fAdd (dL (dLst (dCons (dVar 1) dNil))) (dVar 2))) (dCons (dB1 fAll (dL (dComp [5] (iA (dVar 2)) (gNm 5) dYes (dOp fGt (dVar 5) (dVar 1))))) dNil)))))))
theorem mem_prs {ps : List (Int × Int)} {d : D} (h : d ∈ ps.map fun p => D.tup [.int p.1, .int p.2]) : ∃ p ∈ ps, d = .tup [.int p.1, .int p.2] := by
  obtain ⟨p, h1, h2⟩ := List.mem_map.mp h
  exact ⟨p, h1, h2.symm⟩
def addD : D → D
  | .tup [.int a, .int b] => .int (a + b)
  | d => d
theorem sh_reach (C : Cl) : Shows (sp_reach C) 6 (rd_reach C) := by
  intro ds M q e h
  obtain ⟨d, rfl, hs, hd, hh, hq⟩ := ar1_of h
  have hq := hq _ rfl
  have hl := splP_len hh.sm
  refine ⟨hs, hd, hh, hs, hd, hh.sm, rfl, hs, hd, hh.sm, hh.1, ?_⟩
  refine compR_map addD _ (fun x hx kt kf k => ?_) (by rw [List.length_map]; omega) ?_
  · obtain ⟨p, hp, rfl⟩ := mem_prs hx
    exact ⟨rfl, k⟩
  have e1 : ((splP hs).map fun p => D.tup [.int p.1, .int p.2]).map addD = (sumsP hs).map .int := by
    unfold sumsP
    rw [List.map_map, List.map_map]; rfl
  rw [e1]
  have hl2 : (sumsP hs).length ≤ 62 := by unfold sumsP; rw [List.length_map]; exact hl
  refine ⟨by simp, ?_⟩
  refine ⟨by rw [List.length_map]; simp; omega, ?_⟩
  refine fMin_ints (n := lcmL hs) (r := sumsP hs) ?_
  refine ⟨rfl, ?_⟩
  refine compR_map (fun d => match d with | .int i => .bl (decide (lcmL hs < i)) | d => d) _ (fun x hx kt kf k => ?_) (by rw [List.length_map]; omega) ?_
  · obtain ⟨i, hi, rfl⟩ := List.mem_map.mp hx
    exact k
  rw [List.map_map, show ((fun d => match d with | .int i => D.bl (decide (lcmL hs < i)) | d => d) ∘ D.int) = D.bl ∘ fun i => decide (lcmL hs < i) from rfl, ← List.map_map]
  refine fAll_bls ?_
  rw [List.all_map]
  exact ⟨by simp, M, MLe.refl _, hq⟩
def NmOk (i : Int) : Prop := -(10 ^ 40) ≤ i ∧ i ≤ 10 ^ 40
theorem NmOk.sz {i : Int} (h : NmOk i) : SzB 140 i := SzB.of (by have := h.1; omega) (by have := h.2; omega)
def sp_pair_in (C : Cl) : PSp := fun ds M q _ => ar3 ds fun d a b => ∃ hs, isSeq d hs ∧ HsOk hs ∧ asI a fun lo => asI b fun hi => (NmOk lo ∧ NmOk hi) ∧ ∀ d, d = optP (pairV hs lo hi) → q d M
def rd_pair_in (C : Cl) : PTS := (dSeq (dSet 3 (dCall (sp_multiple C) [] (dCons (dVar 0) dNil)))
    (dSeq (dIfS (dTst (dOp fGe (dOp fSub (dVar 2) (dVar 1)) (dOp fMul (dC (.int 2)) (dVar 3)))) (dRet (dTup (dCons (dVar 1) (dCons (dOp fAdd (dVar 1) (dOp fMul (dC (.int 2)) (dVar 3))) dNil)))) dNext)
    (dSeq (dSet 4 (dOp fMul (dOp fAdd (dOp fDiv (dVar 1) (dVar 3)) (dC (.int 1))) (dVar 3)))
    (dSeq (dIfS (dTst (dOp fLt (dVar 4) (dVar 2))) (dRet (dTup (dCons (dOp fSub (dVar 4) (dC (.int 1))) (dCons (dOp fAdd (dVar 4) (dC (.int 1))) dNil)))) dNext)
    (dSeq (dFor (iA (dCall (sp_splits C) [] (dCons (dVar 0) dNil))) (gTp 2 (gsCons (gNm 5) (gsCons (gNm 6) gsNil))) (dSeq (dSet 7 (dOp fMul (dNeg (dOp fDiv (dNeg (dOp fAdd (dVar 1) (dVar 5))) (dVar 6))) (dVar 6)))
    (dIfS (dTst (dOp fLe (dVar 7) (dOp fSub (dVar 2) (dVar 5)))) (dRet (dTup (dCons (dOp fSub (dVar 7) (dVar 5)) (dCons (dOp fAdd (dVar 7) (dVar 5)) dNil)))) dNext)))
    (dRet (dC .non)))))))
theorem sh_pair_in (C : Cl) : Shows (sp_pair_in C) 8 (rd_pair_in C) := by
  intro ds M q e h
  obtain ⟨d, x, y, rfl, hs, hd, hh, h⟩ := ar3_of h
  obtain ⟨lo, e1, h⟩ := asI_of h
  obtain ⟨hi, e2, ⟨h1, h2⟩, hq⟩ := asI_of h
  subst e1 e2
  have hq := hq _ rfl
  have hw := hh.sm.lcm
  haveI := h1.sz
  haveI := h2.sz
  have sp := fun p => splP_sm hh.sm (p := p)
  have hsl : (splP hs).length ≤ 62 := splP_len hh.sm
  haveI : SzB 60 (lcmL hs) := SzB.of (by omega) (by omega)
  unfold pairV at hq
  refine ⟨hs, hd, hh.sm, ?_⟩
  generalize hL : lcmL hs = L at *
  refine ⟨(SzB.mulX inferInstance inferInstance), ?_⟩
  by_cases c1 : 2 * L ≤ hi - lo
  · rw [if_pos c1] at hq
    exact itT (decide_eq_true c1) ⟨(SzB.mulX inferInstance inferInstance), by simp, M, MLe.refl _, hq⟩
  rw [if_neg c1] at hq
  refine itF (decide_eq_false c1) ⟨(SzB.divX (by omega) inferInstance), (SzB.mulX inferInstance inferInstance), ?_⟩
  dsimp only [dSeq, dInN, dPutN, dGetN, dNewN, dCallL, dCallLK, dRetL, dRetOwn, dNext, dSet, dSetO, dRet, dRetN, dDrop, dIfS, dFor, dPar, dPar3, dParL2, dParL3, dAsg, dFrz, dIf, dTst, dOp, dVar, dOwn, dC, dB1, dG1, dL, dLst, dCons, dNil, dTup, dCall, dCallK, dAnd, dOr, dNot, dAndV, dOrV, dNotV, dNeg, dChain, dNever, dNeverS, dRaise, dYes, gNm, gsCons, gsNil, gTp, gt, st, fAdd, fSub, fMul, fDiv, fMod, fPow, fShl, fShr, fCmp, fEq, fNe, fEqS, fNeS, fIs, fIsNot, fLen, fMin, fMax, fMin2, fMax2, fAll, fAny, fAbs, fTup, fRepr, fIx, atD, isB, ls2, ls3, startR, ar1, ar2, ar3, ar4, asI, asT, asL, asDraw, sp_take, sp_pick, sp_begin, List.map, List.append, List.replicate, List.length, List.cons_append, List.nil_append, Nat.sub_self, Nat.reduceSub, Nat.reduceAdd, dApp, isOwn, appR, dSl, dPt, dNo, slR, asIn, List.map_cons, List.map_nil]
  by_cases c2 : (lo / L + 1) * L < hi
  · rw [if_pos c2] at hq
    exact itT (decide_eq_true c2) ⟨by simp, M, MLe.refl _, hq⟩
  rw [if_neg c2] at hq
  refine itF (decide_eq_false c2) ?_
  refine ⟨hs, hd, hh.sm, hh.1, ?_⟩
  refine forR_ind (fun rem ρ M' => M' = M ∧ ∃ (ps : List (Int × Int)) (x5 x6 x7 : Option Sv), rem = ps.map (fun p => D.tup [.int p.1, .int p.2]) ∧ ρ = [some (.val d), some (.val (.int lo)), some (.val (.int hi)), some (.val (.int L)), some (.val (.int ((lo / L + 1) * L))), x5, x6, x7] ∧
    (∀ p ∈ ps, p ∈ splP hs) ∧ (splP hs).find? (fitsIn lo hi) = ps.find? (fitsIn lo hi)) ?_ ?_ _ _ _ ⟨rfl, splP hs, none, none, none, rfl, rfl, fun _ z => z, rfl⟩
  · rintro x r ρ M' ⟨rfl, ps, x5, x6, x7, hr, rfl, hm, hf⟩ F hF
    cases ps with
    | nil => cases hr
    | cons p ps =>
      cases hr
      obtain ⟨p1, p2, p3, p4⟩ := sp p (hm p List.mem_cons_self)
      haveI : SzB 60 p.1 := SzB.of (by omega) (by omega)
      haveI : SzB 60 p.2 := SzB.of (by omega) (by omega)
      rw [List.find?_cons] at hf
      refine ⟨rfl, (SzB.divX (by omega) inferInstance), (SzB.mulX inferInstance inferInstance), ?_⟩
      dsimp only [dSeq, dInN, dPutN, dGetN, dNewN, dCallL, dCallLK, dRetL, dRetOwn, dNext, dSet, dSetO, dRet, dRetN, dDrop, dIfS, dFor, dPar, dPar3, dParL2, dParL3, dAsg, dFrz, dIf, dTst, dOp, dVar, dOwn, dC, dB1, dG1, dL, dLst, dCons, dNil, dTup, dCall, dCallK, dAnd, dOr, dNot, dAndV, dOrV, dNotV, dNeg, dChain, dNever, dNeverS, dRaise, dYes, gNm, gsCons, gsNil, gTp, gt, st, fAdd, fSub, fMul, fDiv, fMod, fPow, fShl, fShr, fCmp, fEq, fNe, fEqS, fNeS, fIs, fIsNot, fLen, fMin, fMax, fMin2, fMax2, fAll, fAny, fAbs, fTup, fRepr, fIx, atD, isB, ls2, ls3, startR, ar1, ar2, ar3, ar4, asI, asT, asL, asDraw, sp_take, sp_pick, sp_begin, List.map, List.append, List.replicate, List.length, List.cons_append, List.nil_append, Nat.sub_self, Nat.reduceSub, Nat.reduceAdd, dApp, isOwn, appR, dSl, dPt, dNo, slR, asIn, List.map_cons, List.map_nil]
      by_cases c3 : -(-(lo + p.1) / p.2) * p.2 ≤ hi - p.1
      · have c4 : fitsIn lo hi p = true := decide_eq_true c3
        rw [c4] at hf
        rw [hf] at hq
        exact itT (decide_eq_true c3) ⟨by simp, M', MLe.refl _, hq⟩
      · have c4 : fitsIn lo hi p = false := decide_eq_false c3
        rw [c4] at hf
        exact itF (decide_eq_false c3) (hF _ _ ⟨rfl, ps, _, _, _, rfl, rfl, fun y hy => hm y (List.mem_cons_of_mem _ hy), hf⟩)
  · rintro ρ M' ⟨rfl, ps, x5, x6, x7, hr, rfl, hm, hf⟩
    have e0 : ps = [] := by cases ps with | nil => rfl | cons => cases hr
    subst e0
    rw [hf] at hq
    exact ⟨M', MLe.refl _, hq⟩
def sp_alike_pair (C : Cl) : PSp := fun ds M q _ => ar3 ds fun d a b => ∃ hs, isSeq d hs ∧ HsOk hs ∧ asI a fun lo => asI b fun hi => (0 ≤ lo ∧ lo ≤ hi ∧ hi ≤ 10 ^ 30 - 1) ∧ ∀ d, d = optS (pairV hs lo hi) → q d M
def rd_alike_pair (C : Cl) : PTS := (dSeq (dDrop (dCall (sp_need_halves C) [] (dCons (dVar 0) dNil)))
    (dSeq (dIfS (dOr (dNot (dTst (dCall (sp_is_between C) [] (dCons (dVar 1) (dCons (dC (.int 0)) (dCons (dC (.int 999999999999999999999999999999)) dNil)))))) (dNot (dTst (dCall (sp_is_between C) [] (dCons (dVar 2) (dCons (dVar 1) (dCons (dC (.int 999999999999999999999999999999)) dNil))))))) (dRaise (.ref C.BadStretch)) dNext)
    (dSeq (dSet 3 (dCall (sp_pair_in C) [] (dCons (dVar 0) (dCons (dVar 1) (dCons (dVar 2) dNil)))))
    (dRet (dIf (dTst (dOp fIs (dVar 3) (dC .non))) (dC .non) (dTup (dCons (dTup (dCons (dOp fIx (dVar 3) (dC (.int 0))) (dCons (dC (.int 1)) dNil))) (dCons (dTup (dCons (dOp fIx (dVar 3) (dC (.int 1))) (dCons (dC (.int 1)) dNil))) dNil))))))))
theorem btw_of {n lo hi : Int} (h : lo ≤ n) (h2 : n ≤ hi) : btwD (.int n) lo hi = true := by
  show (decide (lo ≤ n) && decide (n ≤ hi)) = true
  rw [decide_eq_true h, decide_eq_true h2]; rfl
theorem sh_alike_pair (C : Cl) : Shows (sp_alike_pair C) 4 (rd_alike_pair C) := by
  intro ds M q e h
  obtain ⟨d, x, y, rfl, hs, hd, hh, h⟩ := ar3_of h
  obtain ⟨lo, e1, h⟩ := asI_of h
  obtain ⟨hi, e2, ⟨h1, h2, h3⟩, hq⟩ := asI_of h
  subst e1 e2
  have hq := hq _ rfl
  refine ⟨hs, hd, hh, rfl, itF (by rw [btw_of h1 (by omega)]; rfl) ⟨rfl, itF (by rw [btw_of h2 (by omega)]; rfl) ?_⟩⟩
  refine ⟨hs, hd, hh, ⟨⟨by omega, by omega⟩, ⟨by omega, by omega⟩⟩, fun d1 hd1 => ?_⟩
  cases c : pairV hs lo hi with
  | none =>
    rw [c] at hq hd1
    subst hd1
    exact ⟨rfl, M, MLe.refl _, hq⟩
  | some p =>
    rw [c] at hq hd1
    subst hd1
    exact ⟨rfl, _, rfl, by simp, _, rfl, by simp, by simp, M, MLe.refl _, hq⟩
end Px

set_option Elab.async false
set_option linter.all false
set_option maxRecDepth 100000
namespace Px
open PySem PySem.Spec PyProof.Rows L2
/-! # bands: pure readings -/
theorem mulx_small {i j : Int} (h0 : -(10 ^ 60) ≤ i) (h1 : i ≤ 10 ^ 60) (h2 : -(10 ^ 60) ≤ j) (h3 : j ≤ 10 ^ 60) : CMulX i j :=
  cmul_of (a := 300) (b := 300) (Nat.lt_of_le_of_lt (show i.natAbs ≤ 10 ^ 60 by omega) (by decide)) (Nat.lt_of_le_of_lt (show j.natAbs ≤ 10 ^ 60 by omega) (by decide)) (by decide)
theorem log_sm {n : Int} (h0 : 0 ≤ n) (h : n ≤ 10 ^ 60) : n.natAbs.log2 < 9000 := log_small h0 (Int.le_trans h (by decide))
theorem Bd.sm {n : Int} (h0 : 0 ≤ n) (h : n ≤ 10 ^ 60) : Bd n := Bd.small (by omega) (Int.le_trans h (by decide))
theorem eqD_bl (a b : Bool) : eqD (.bl a) (.bl b) = (a == b) := by cases a <;> cases b <;> rfl
/-- a size that all laws' numbers keep -/
def Sz (i : Int) : Prop := -(10 ^ 60) ≤ i ∧ i ≤ 10 ^ 60
theorem Sz.mul {i j : Int} (h : Sz i) (h' : Sz j) : CMulX i j := mulx_small h.1 h.2 h'.1 h'.2
theorem Sz.of {i : Int} (h : -(10 ^ 59) ≤ i) (h' : i ≤ 10 ^ 59) : Sz i := ⟨by omega, by omega⟩
theorem Sz.div {i : Int} (h : Sz i) (h0 : 0 < i) (j : Int) : CDivW j i := (Bd.sm (by omega) h.2).div h0 j
theorem sz_lit {i : Int} (h : -1000000 ≤ i := by decide) (h' : i ≤ 1000000 := by decide) : Sz i := ⟨by omega, by omega⟩
theorem sz2 : Sz 2 := sz_lit
theorem Bd.mul' {i j : Int} (h : Sz i) (h' : Sz j) : Bd (i * j) := by
  have a1 : i.natAbs ≤ 10 ^ 60 := by have := h.1; have := h.2; omega
  have a2 : j.natAbs ≤ 10 ^ 60 := by have := h'.1; have := h'.2; omega
  unfold Bd
  rw [Int.natAbs_mul]
  have e : i.natAbs * j.natAbs ≤ 10 ^ 60 * 10 ^ 60 := Nat.mul_le_mul a1 a2
  exact Nat.lt_of_le_of_lt e (Nat.lt_of_lt_of_le (show 10 ^ 60 * 10 ^ 60 < 2 ^ 450 by decide) (Nat.pow_le_pow_right (by decide) (by decide)))
/-- a pair of ints -/
def asP (d : D) (k : Int → Int → Prop) : Prop := match d with | .tup [.int x, .int y] => k x y | _ => False
theorem asP_of {d : D} {k : Int → Int → Prop} (h : asP d k) : ∃ x y, d = .tup [.int x, .int y] ∧ k x y := by
  unfold asP at h
  split at h
  · exact ⟨_, _, rfl, h⟩
  · exact h.elim
abbrev prD (p : Int × Int) : D := .tup [.int p.1, .int p.2]
/-! ## the program's -/
def sp_is_below (C : Cl) : PSp := fun ds M q _ => ar2 ds fun a b => asP a fun x y => asP b fun u v => (Sz x ∧ Sz y ∧ Sz u ∧ Sz v) ∧ q (.bl (decide (x * v < u * y))) M
def rd_is_below (C : Cl) : PTS := (dRet (dOp fLt (dOp fMul (dOp fIx (dVar 0) (dC (.int 0))) (dOp fIx (dVar 1) (dC (.int 1)))) (dOp fMul (dOp fIx (dVar 1) (dC (.int 0))) (dOp fIx (dVar 0) (dC (.int 1))))))
theorem sh_is_below (C : Cl) : Shows (sp_is_below C) 2 (rd_is_below C) := by
  intro ds M q e h
  obtain ⟨a, b, rfl, h⟩ := ar2_of h
  obtain ⟨x, y, rfl, h⟩ := asP_of h
  obtain ⟨u, v, rfl, ⟨h1, h2, h3, h4⟩, hq⟩ := asP_of h
  exact ⟨_, rfl, _, rfl, h1.mul h4, _, rfl, _, rfl, h3.mul h2, M, MLe.refl M, hq⟩
def sp_greater (C : Cl) : PSp := fun ds M q _ => ar2 ds fun a b => asP a fun x y => asP b fun u v => (Sz x ∧ Sz y ∧ Sz u ∧ Sz v) ∧ ∀ d, d = (if x * v < u * y then .tup [.int u, .int v] else .tup [.int x, .int y]) → q d M
def rd_greater (C : Cl) : PTS := (dRet (dIf (dTst (dCall (sp_is_below C) [] (dCons (dVar 0) (dCons (dVar 1) dNil)))) (dVar 1) (dVar 0)))
theorem sh_greater (C : Cl) : Shows (sp_greater C) 2 (rd_greater C) := by
  intro ds M q e h
  obtain ⟨a, b, rfl, h⟩ := ar2_of h
  obtain ⟨x, y, rfl, h⟩ := asP_of h
  obtain ⟨u, v, rfl, hs, hq⟩ := asP_of h
  have hq := hq _ rfl
  refine ⟨hs, ?_⟩
  by_cases c : x * v < u * y
  · rw [if_pos c] at hq
    exact itT (decide_eq_true c) ⟨M, MLe.refl M, hq⟩
  · rw [if_neg c] at hq
    exact itF (decide_eq_false c) ⟨M, MLe.refl M, hq⟩
def sp_moved (C : Cl) : PSp := fun ds M q _ => ar3 ds fun n g t => asI n fun n => asP g fun x y => asI t fun t => (Sz n ∧ Sz x ∧ Sz y ∧ Sz t ∧ 0 < y ∧ 0 ≤ n * y + t * x) ∧ q (spd (n * y + t * x) y) M
def rd_moved (C : Cl) : PTS := (dRet (dCall (sp_lowest C) [] (dCons (dOp fAdd (dOp fMul (dVar 0) (dOp fIx (dVar 1) (dC (.int 1)))) (dOp fMul (dVar 2) (dOp fIx (dVar 1) (dC (.int 0))))) (dCons (dOp fIx (dVar 1) (dC (.int 1))) dNil))))
theorem sh_moved (C : Cl) : Shows (sp_moved C) 3 (rd_moved C) := by
  intro ds M q e h
  obtain ⟨a, b, c, rfl, h⟩ := ar3_of h
  obtain ⟨n, rfl, h⟩ := asI_of h
  obtain ⟨x, y, rfl, h⟩ := asP_of h
  obtain ⟨t, e1, ⟨h1, h2, h3, h4, h5, h6⟩, hq⟩ := asI_of h
  subst e1
  exact ⟨_, rfl, h1.mul h3, _, rfl, h4.mul h2, _, rfl, h6, h5, Bd.sm (by omega) h3.2, M, MLe.refl M, hq⟩
/-- how many times the rate goes into the band -/
def foldV (l h a b : Int) : Option Int := if (l * b / a + 1) * a < h * b then some (l * b / a + 1) else none
def optI : Option Int → D
  | some t => .int t
  | none => .non
/-- a rate -/
def RtOk (a b : Int) : Prop := 0 < a ∧ a ≤ 10 ^ 30 ∧ 0 < b ∧ b ≤ 10 ^ 30
theorem RtOk.sa {a b : Int} (h : RtOk a b) : Sz a := ⟨by have := h.1; omega, by have := h.2.1; omega⟩
theorem RtOk.sb {a b : Int} (h : RtOk a b) : Sz b := ⟨by have := h.2.2.1; omega, by have := h.2.2.2; omega⟩
def EnOk (i : Int) : Prop := -5000 ≤ i ∧ i ≤ 5000
theorem EnOk.sz {i : Int} (h : EnOk i) : Sz i := ⟨by have := h.1; omega, by have := h.2; omega⟩
theorem en_mul {i b : Int} (h : EnOk i) (h0 : 0 < b) (h1 : b ≤ 10 ^ 30) : -(5000 * 10 ^ 30) ≤ i * b ∧ i * b ≤ 5000 * 10 ^ 30 := by
  obtain ⟨a1, a2⟩ := h
  constructor
  · have h3 : -5000 * b ≤ i * b := Int.mul_le_mul_of_nonneg_right a1 (by omega)
    omega
  · have h3 : i * b ≤ 5000 * b := Int.mul_le_mul_of_nonneg_right a2 (by omega)
    omega
theorem div_bnd {x a : Int} (h0 : 0 < a) {B : Int} (hB : 0 ≤ B) (h1 : -B ≤ x) (h2 : x ≤ B) : -B ≤ x / a ∧ x / a ≤ B := by
  constructor
  · have : -B ≤ x / a := (Int.le_ediv_iff_mul_le h0).mpr (by
      have : -B * a ≤ -B := by
        have : B * 1 ≤ B * a := Int.mul_le_mul_of_nonneg_left (by omega) hB
        rw [Int.neg_mul]; omega
      omega)
    exact this
  · have h3 : x / a ≤ B := by
      have h4 := Int.ediv_mul_le x (show a ≠ 0 by omega)
      by_cases c : x / a ≤ B
      · exact c
      · exfalso
        have h5 : B + 1 ≤ x / a := by omega
        have h6 : (B + 1) * 1 ≤ x / a * a := Int.mul_le_mul h5 (by omega) (by omega) (by omega)
        omega
    exact h3
def sp_fold_in (C : Cl) : PSp := fun ds M q _ => ar2 ds fun d r => asP d fun l h => asP r fun a b => (EnOk l ∧ EnOk h ∧ RtOk a b) ∧ ∀ d, d = optI (foldV l h a b) → q d M
def rd_fold_in (C : Cl) : PTS := (dSeq (dAsg (dVar 0) (gTp 2 (gsCons (gNm 2) (gsCons (gNm 3) gsNil))))
    (dSeq (dSet 4 (dOp fAdd (dOp fDiv (dOp fMul (dVar 2) (dOp fIx (dVar 1) (dC (.int 1)))) (dOp fIx (dVar 1) (dC (.int 0)))) (dC (.int 1))))
    (dRet (dIf (dTst (dOp fLt (dOp fMul (dVar 4) (dOp fIx (dVar 1) (dC (.int 0)))) (dOp fMul (dVar 3) (dOp fIx (dVar 1) (dC (.int 1)))))) (dVar 4) (dC .non)))))
theorem sh_fold_in (C : Cl) : Shows (sp_fold_in C) 5 (rd_fold_in C) := by
  intro ds M q e h
  obtain ⟨x, y, rfl, h⟩ := ar2_of h
  obtain ⟨l, h', rfl, h⟩ := asP_of h
  obtain ⟨a, b, rfl, ⟨h1, h2, h3⟩, hq⟩ := asP_of h
  have m1 := en_mul h1 h3.2.2.1 h3.2.2.2
  have d1 := div_bnd (x := l * b) h3.1 (by decide) m1.1 m1.2
  have s1 : Sz (l * b / a + 1) := ⟨by omega, by omega⟩
  refine ⟨rfl, _, rfl, h1.sz.mul h3.sb, _, rfl, h3.sa.div h3.1 _, _, rfl, s1.mul h3.sa, _, rfl, h2.sz.mul h3.sb, ?_⟩
  have hq := hq _ rfl
  unfold foldV at hq
  by_cases c : (l * b / a + 1) * a < h' * b
  · rw [if_pos c] at hq
    exact itT (decide_eq_true c) ⟨M, MLe.refl M, hq⟩
  · rw [if_neg c] at hq
    exact itF (decide_eq_false c) ⟨M, MLe.refl M, hq⟩
/-- the least multiple of twice the rate from low on, up to high: how many times -/
def gapT (lo a b : Int) : Int := -(-lo * b / (2 * a))
def gapIs (lo hi a b : Int) : Bool := decide (2 * gapT lo a b * a ≤ hi * b)
def gapD (lo hi a b : Int) : D := if gapIs lo hi a b = true then spd (2 * gapT lo a b * a) b else .non
def sp_gap_in (C : Cl) : PSp := fun ds M q _ => ar3 ds fun lo hi r => asI lo fun lo => asI hi fun hi => asP r fun a b => (0 ≤ lo ∧ EnOk lo ∧ EnOk hi ∧ RtOk a b) ∧ ∀ d, d = gapD lo hi a b → q d M
def rd_gap_in (C : Cl) : PTS := (dSeq (dSet 3 (dNeg (dOp fDiv (dOp fMul (dNeg (dVar 0)) (dOp fIx (dVar 2) (dC (.int 1)))) (dOp fMul (dC (.int 2)) (dOp fIx (dVar 2) (dC (.int 0)))))))
    (dRet (dIf (dTst (dOp fLe (dOp fMul (dOp fMul (dC (.int 2)) (dVar 3)) (dOp fIx (dVar 2) (dC (.int 0)))) (dOp fMul (dVar 1) (dOp fIx (dVar 2) (dC (.int 1)))))) (dCall (sp_lowest C) [] (dCons (dOp fMul (dOp fMul (dC (.int 2)) (dVar 3)) (dOp fIx (dVar 2) (dC (.int 0)))) (dCons (dOp fIx (dVar 2) (dC (.int 1))) dNil))) (dC .non))))
theorem gapT_nn {lo a b : Int} (h : 0 ≤ lo) (ha : 0 < a) (hb : 0 < b) : 0 ≤ gapT lo a b := by
  unfold gapT
  have h1 : -lo * b ≤ 0 := by
    have := Int.mul_nonneg h (Int.le_of_lt hb)
    rw [Int.neg_mul]; omega
  have h2 : -lo * b / (2 * a) ≤ 0 := Int.ediv_nonpos_of_nonpos_of_neg h1 (by omega)
  omega
theorem gapT_sz {lo a b : Int} (h : EnOk lo) (hr : RtOk a b) : -(5000 * 10 ^ 30) ≤ gapT lo a b ∧ gapT lo a b ≤ 5000 * 10 ^ 30 := by
  have h' : EnOk (-lo) := ⟨by have := h.2; omega, by have := h.1; omega⟩
  have m1 := en_mul h' hr.2.2.1 hr.2.2.2
  have d1 := div_bnd (x := -lo * b) (a := 2 * a) (by have := hr.1; omega) (by decide) m1.1 m1.2
  unfold gapT
  omega
theorem sh_gap_in (C : Cl) : Shows (sp_gap_in C) 4 (rd_gap_in C) := by
  intro ds M q e h
  obtain ⟨x, y, z, rfl, h⟩ := ar3_of h
  obtain ⟨lo, e1, h⟩ := asI_of h
  obtain ⟨hi, e2, h⟩ := asI_of h
  subst e1 e2
  obtain ⟨a, b, rfl, ⟨h0, h1, h2, h3⟩, hq⟩ := asP_of h
  have h1' : Sz (-lo) := ⟨by have := h1.2; omega, by have := h1.1; omega⟩
  have g0' := gapT_nn (lo := lo) h0 h3.1 h3.2.2.1
  have g1 := gapT_sz h1 h3
  have eg : gapT lo a b = -(-lo * b / (2 * a)) := rfl
  have st : Sz (gapT lo a b) := ⟨by omega, by omega⟩
  have st2 : Sz (2 * gapT lo a b) := ⟨by omega, by omega⟩
  have s2a : Sz (2 * a) := ⟨by have := h3.1; omega, by have := h3.2.1; omega⟩
  refine ⟨_, rfl, h1'.mul h3.sb, _, rfl, sz2.mul h3.sa, s2a.div (by have := h3.1; omega) _, sz2.mul st, _, rfl, st2.mul h3.sa, _, rfl, h2.sz.mul h3.sb, ?_⟩
  have hq := hq _ rfl
  unfold gapD at hq
  cases c : gapIs lo hi a b with
  | true =>
    rw [c] at hq
    refine itT c ⟨sz2.mul st, _, rfl, st2.mul h3.sa, _, rfl, Int.mul_nonneg (by omega) (by have := h3.1; omega), h3.2.2.1, Bd.sm (by have := h3.2.2.1; omega) h3.sb.2, M, MLe.refl M, hq⟩
  | false =>
    rw [c] at hq
    exact itF c ⟨M, MLe.refl M, hq⟩

/-! ## two bands that look alike -/
/-- what the two pairs have in common of a gap: f and g - f, or f and f + g -/
def aX (l1 h2 G0 G1 : Int) : Int := if l1 * G1 < G0 - h2 * G1 then G0 - h2 * G1 else l1 * G1
def bX (l1 l2 G0 G1 : Int) : Int := if l1 * G1 < l2 * G1 - G0 then l2 * G1 - G0 else l1 * G1
def sumD (l1 h2 : Int) : D → D
  | .tup [.int G0, .int G1] => .tup [spd (aX l1 h2 G0 G1) G1, spd (G0 - aX l1 h2 G0 G1) G1]
  | _ => .non
def difD (l1 l2 : Int) : D → D
  | .tup [.int G0, .int G1] => .tup [spd (bX l1 l2 G0 G1) G1, spd (bX l1 l2 G0 G1 + G0) G1]
  | _ => .non
def alikeD (l1 h1 l2 h2 a b : Int) : D :=
  if gapIs (l1 + l2) (h1 + h2) a b = true then sumD l1 h2 (gapD (l1 + l2) (h1 + h2) a b)
  else if gapIs (l2 - h1) (h2 - l1) a b = true then difD l1 l2 (gapD (l2 - h1) (h2 - l1) a b)
  else .non
/-- two bands, the one behind the other -/
def BnOk (l1 h1 l2 h2 : Int) : Prop := 0 ≤ l1 ∧ l1 < h1 ∧ h1 < l2 ∧ l2 < h2 ∧ h2 ≤ 1000
def sp_alike_in (C : Cl) : PSp := fun ds M q _ => ar3 ds fun x y r => asP x fun l1 h1 => asP y fun l2 h2 => asP r fun a b => (BnOk l1 h1 l2 h2 ∧ RtOk a b) ∧ ∀ d, d = alikeD l1 h1 l2 h2 a b → q d M
theorem gap_facts {lo hi a b : Int} (h0 : 0 ≤ lo) (h1 : EnOk lo) (h2 : EnOk hi) (hr : RtOk a b) (hg : gapIs lo hi a b = true) :
    ∃ G0 G1 t, gapD lo hi a b = .tup [.int G0, .int G1] ∧ 0 ≤ G0 ∧ 0 < G1 ∧ G1 ≤ 10 ^ 30 ∧ G0 ≤ 5000 * 10 ^ 30 ∧ lo * G1 ≤ G0 ∧ G0 ≤ hi * G1 ∧ 0 ≤ t ∧ G0 * b = 2 * t * a * G1 := by
  have t0 := gapT_nn (lo := lo) h0 hr.1 hr.2.2.1
  have T0 : 0 ≤ 2 * gapT lo a b * a := Int.mul_nonneg (by omega) (by have := hr.1; omega)
  have hg' : 2 * gapT lo a b * a ≤ hi * b := by unfold gapIs at hg; exact of_decide_eq_true hg
  have hlo : lo * b ≤ 2 * gapT lo a b * a := by
    have e := Int.ediv_mul_le (-lo * b) (show 2 * a ≠ 0 by have := hr.1; omega)
    have e2 : 2 * gapT lo a b * a = -(-lo * b / (2 * a) * (2 * a)) := by
      unfold gapT
      rw [Int.mul_neg, Int.neg_mul, Int.mul_comm 2 (-lo * b / (2 * a)), Int.mul_assoc]
    rw [e2]
    rw [Int.neg_mul] at e ⊢
    omega
  have gp := g0_pos (x := 2 * gapT lo a b * a) hr.2.2.1
  have ex := Int.mul_ediv_cancel' (g0_dvd_l (2 * gapT lo a b * a) b)
  have ey := Int.mul_ediv_cancel' (g0_dvd_r (2 * gapT lo a b * a) b)
  refine ⟨2 * gapT lo a b * a / g0 (2 * gapT lo a b * a) b, b / g0 (2 * gapT lo a b * a) b, gapT lo a b, ?_, Int.ediv_nonneg T0 (by omega), ?_, ?_, ?_, ?_, ?_, t0, ?_⟩
  · unfold gapD
    rw [if_pos hg]
    rfl
  · generalize g0 (2 * gapT lo a b * a) b = g at *
    by_cases c : 0 < b / g
    · exact c
    · exfalso
      have : g * (b / g) ≤ g * 0 := Int.mul_le_mul_of_nonneg_left (by omega) (by omega)
      have := hr.2.2.1
      omega
  · exact Int.le_trans (Int.ediv_le_self _ (by have := hr.2.2.1; omega)) hr.2.2.2
  · refine Int.le_trans (Int.ediv_le_self _ T0) (Int.le_trans hg' ?_)
    exact (en_mul h2 hr.2.2.1 hr.2.2.2).2
  · generalize g0 (2 * gapT lo a b * a) b = g at *
    refine Int.le_of_mul_le_mul_left (a := g) ?_ gp
    rw [ex, Int.mul_left_comm, ey]
    exact hlo
  · generalize g0 (2 * gapT lo a b * a) b = g at *
    refine Int.le_of_mul_le_mul_left (a := g) ?_ gp
    rw [ex, Int.mul_left_comm, ey]
    exact hg'
  · generalize g0 (2 * gapT lo a b * a) b = g at *
    refine Int.eq_of_mul_eq_mul_left (show g ≠ 0 by omega) ?_
    rw [← Int.mul_assoc, ex, Int.mul_left_comm, ey]
theorem spd_self (x : Int) : spd x 1 = .tup [.int x, .int 1] := by
  unfold spd g0
  rw [Int.gcd_one]
  simp
/-- what a fraction in lowest terms is -/
theorem spd_parts {x y : Int} (hx : 0 ≤ x) (hy : 0 < y) : ∃ u v g, spd x y = .tup [.int u, .int v] ∧ 0 ≤ u ∧ 0 < v ∧ 0 < g ∧ x = g * u ∧ y = g * v ∧ u ≤ x ∧ v ≤ y := by
  have gp := g0_pos (x := x) hy
  have ex := Int.mul_ediv_cancel' (g0_dvd_l x y)
  have ey := Int.mul_ediv_cancel' (g0_dvd_r x y)
  refine ⟨x / g0 x y, y / g0 x y, g0 x y, rfl, Int.ediv_nonneg hx (by omega), ?_, gp, ex.symm, ey.symm, Int.ediv_le_self _ hx, Int.ediv_le_self _ (by omega)⟩
  by_cases c : 0 < y / g0 x y
  · exact c
  · exfalso
    have : g0 x y * (y / g0 x y) ≤ g0 x y * 0 := Int.mul_le_mul_of_nonneg_left (by omega) (by omega)
    omega

def rd_alike_in (C : Cl) : PTS := (dSeq (dSet 3 (dCall (sp_gap_in C) [] (dCons (dOp fAdd (dOp fIx (dVar 0) (dC (.int 0))) (dOp fIx (dVar 1) (dC (.int 0)))) (dCons (dOp fAdd (dOp fIx (dVar 0) (dC (.int 1))) (dOp fIx (dVar 1) (dC (.int 1)))) (dCons (dVar 2) dNil)))))
    (dSeq (dIfS (dTst (dOp fIsNot (dVar 3) (dC .non))) (dSeq (dSet 4 (dTup (dCons (dOp fIx (dVar 0) (dC (.int 0))) (dCons (dC (.int 1)) dNil))))
    (dSeq (dIfS (dTst (dOp fLt (dOp fMul (dOp fIx (dVar 1) (dC (.int 1))) (dOp fIx (dVar 3) (dC (.int 1)))) (dOp fIx (dVar 3) (dC (.int 0))))) (dSet 4 (dCall (sp_greater C) [] (dCons (dVar 4) (dCons (dCall (sp_moved C) [] (dCons (dNeg (dOp fIx (dVar 1) (dC (.int 1)))) (dCons (dVar 3) (dCons (dC (.int 1)) dNil)))) dNil)))) dNext)
    (dRet (dTup (dCons (dVar 4) (dCons (dCall (sp_lowest C) [] (dCons (dOp fSub (dOp fMul (dOp fIx (dVar 3) (dC (.int 0))) (dOp fIx (dVar 4) (dC (.int 1)))) (dOp fMul (dOp fIx (dVar 4) (dC (.int 0))) (dOp fIx (dVar 3) (dC (.int 1))))) (dCons (dOp fMul (dOp fIx (dVar 3) (dC (.int 1))) (dOp fIx (dVar 4) (dC (.int 1)))) dNil))) dNil)))))) dNext)
    (dSeq (dSet 3 (dCall (sp_gap_in C) [] (dCons (dOp fSub (dOp fIx (dVar 1) (dC (.int 0))) (dOp fIx (dVar 0) (dC (.int 1)))) (dCons (dOp fSub (dOp fIx (dVar 1) (dC (.int 1))) (dOp fIx (dVar 0) (dC (.int 0)))) (dCons (dVar 2) dNil)))))
    (dSeq (dIfS (dTst (dOp fIs (dVar 3) (dC .non))) (dRet (dC .non)) dNext)
    (dSeq (dSet 4 (dTup (dCons (dOp fIx (dVar 0) (dC (.int 0))) (dCons (dC (.int 1)) dNil))))
    (dSeq (dIfS (dTst (dOp fGt (dOp fMul (dOp fIx (dVar 1) (dC (.int 0))) (dOp fIx (dVar 3) (dC (.int 1)))) (dOp fIx (dVar 3) (dC (.int 0))))) (dSet 4 (dCall (sp_greater C) [] (dCons (dVar 4) (dCons (dCall (sp_moved C) [] (dCons (dOp fIx (dVar 1) (dC (.int 0))) (dCons (dVar 3) (dCons (dNeg (dC (.int 1))) dNil)))) dNil)))) dNext)
    (dRet (dTup (dCons (dVar 4) (dCons (dCall (sp_lowest C) [] (dCons (dOp fAdd (dOp fMul (dOp fIx (dVar 4) (dC (.int 0))) (dOp fIx (dVar 3) (dC (.int 1)))) (dOp fMul (dOp fIx (dVar 3) (dC (.int 0))) (dOp fIx (dVar 4) (dC (.int 1))))) (dCons (dOp fMul (dOp fIx (dVar 4) (dC (.int 1))) (dOp fIx (dVar 3) (dC (.int 1)))) dNil))) dNil))))))))))
theorem great_is {l A B : Int} (hA : 0 ≤ A) (hB : 0 < B) : (if l * (B / g0 A B) < (A / g0 A B) * 1 then .tup [.int (A / g0 A B), .int (B / g0 A B)] else .tup [.int l, .int 1] : D) = spd (if l * B < A then A else l * B) B := by
  have gp := g0_pos (x := A) hB
  have ex := Int.mul_ediv_cancel' (g0_dvd_l A B)
  have ey := Int.mul_ediv_cancel' (g0_dvd_r A B)
  have key : l * (B / g0 A B) < (A / g0 A B) * 1 ↔ l * B < A := by
    generalize g0 A B = g at *
    rw [Int.mul_one]
    constructor
    · intro z
      have := Int.mul_lt_mul_of_pos_left z gp
      rw [ex, Int.mul_left_comm, ey] at this
      exact this
    · intro z
      refine Int.lt_of_mul_lt_mul_left (a := g) ?_ (Int.le_of_lt gp)
      rw [ex, Int.mul_left_comm, ey]
      exact z
  by_cases c : l * B < A
  · rw [if_pos c, if_pos (key.mpr c)]; rfl
  · rw [if_neg c, if_neg (fun z => c (key.mp z)), ← spd_self l, Int.mul_comm l B]
    have e := spd_mul hB l 1
    rw [Int.mul_one] at e
    exact e.symm
theorem sh_alike_in (C : Cl) : Shows (sp_alike_in C) 5 (rd_alike_in C) := by
  intro ds M q e h
  obtain ⟨x, y, z, rfl, h⟩ := ar3_of h
  obtain ⟨l1, h1, rfl, h⟩ := asP_of h
  obtain ⟨l2, h2, rfl, h⟩ := asP_of h
  obtain ⟨a, b, rfl, ⟨⟨b1, b2, b3, b4, b5⟩, hr⟩, hq⟩ := asP_of h
  have k1 : EnOk (l1 + l2) := ⟨by omega, by omega⟩
  have k2 : EnOk (h1 + h2) := ⟨by omega, by omega⟩
  have k3 : EnOk (l2 - h1) := ⟨by omega, by omega⟩
  have k4 : EnOk (h2 - l1) := ⟨by omega, by omega⟩
  have sl1 : Sz l1 := ⟨by omega, by omega⟩
  have sl2 : Sz l2 := ⟨by omega, by omega⟩
  have sh1 : Sz h1 := ⟨by omega, by omega⟩
  have sh2 : Sz h2 := ⟨by omega, by omega⟩
  have sn2 : Sz (-h2) := ⟨by omega, by omega⟩
  have s1 : Sz 1 := sz_lit
  have sm1 : Sz (-1) := sz_lit
  have hq := hq _ rfl
  unfold alikeD at hq
  refine ⟨_, rfl, _, rfl, _, rfl, _, rfl, ⟨by omega, k1, k2, hr⟩, fun d hd => ?_⟩
  by_cases c1 : gapIs (l1 + l2) (h1 + h2) a b = true
  · rw [if_pos c1] at hq
    obtain ⟨G0, G1, t, eG, p0, p1, p2, p3, p4, p5, p6, p7⟩ := gap_facts (by omega) k1 k2 hr c1
    rw [eG] at hq hd
    subst hd
    have hq : q (.tup [spd (aX l1 h2 G0 G1) G1, spd (G0 - aX l1 h2 G0 G1) G1]) M := hq
    have sG0 : Sz G0 := ⟨by omega, by omega⟩
    have sG1 : Sz G1 := ⟨by omega, by omega⟩
    have n1 : 0 ≤ l1 * G1 := Int.mul_nonneg b1 (by omega)
    have n2 : l1 * G1 ≤ G0 := by
      refine Int.le_trans ?_ p4
      exact Int.mul_le_mul_of_nonneg_right (by omega) (by omega)
    have hX0 : 0 ≤ aX l1 h2 G0 G1 := by unfold aX; split <;> omega
    have n3 : 0 ≤ h2 * G1 := Int.mul_nonneg (by omega) (by omega)
    have hXG : aX l1 h2 G0 G1 ≤ G0 := by unfold aX; split <;> omega
    refine ⟨rfl, _, rfl, by simp, _, rfl, _, rfl, sh2.mul sG1, _, rfl, ?_⟩
    by_cases c2 : h2 * G1 < G0
    · have eA : -h2 * G1 + 1 * G0 = G0 - h2 * G1 := by rw [Int.neg_mul, Int.one_mul]; omega
      refine itT (decide_eq_true c2) ⟨_, rfl, ⟨sn2, sG0, sG1, s1, p1, by rw [eA]; omega⟩, ?_⟩
      have gp := g0_pos (x := -h2 * G1 + 1 * G0) p1
      have le1 : (-h2 * G1 + 1 * G0) / g0 (-h2 * G1 + 1 * G0) G1 ≤ -h2 * G1 + 1 * G0 := Int.ediv_le_self _ (by rw [eA]; omega)
      have le2 : G1 / g0 (-h2 * G1 + 1 * G0) G1 ≤ G1 := Int.ediv_le_self _ (by omega)
      have ge1 : 0 ≤ (-h2 * G1 + 1 * G0) / g0 (-h2 * G1 + 1 * G0) G1 := Int.ediv_nonneg (by rw [eA]; omega) (by omega)
      have ge2 : 0 ≤ G1 / g0 (-h2 * G1 + 1 * G0) G1 := Int.ediv_nonneg (by omega) (by omega)
      refine ⟨⟨sl1, s1, ⟨by omega, by rw [eA] at le1; rw [eA]; omega⟩, ⟨by omega, by omega⟩⟩, fun d hd => ?_⟩
      rw [great_is (by rw [eA]; omega) p1, eA] at hd
      have hd : d = spd (aX l1 h2 G0 G1) G1 := hd
      obtain ⟨u, v, g, es, u0, v0, g0', ex, ey, ux, vy⟩ := spd_parts hX0 p1
      rw [es] at hd hq
      subst hd
      dsimp only [st]
      have su : Sz u := ⟨by omega, by omega⟩
      have sv : Sz v := ⟨by omega, by omega⟩
      have e1 : G0 * v - u * G1 = v * (G0 - aX l1 h2 G0 G1) := by
        rw [Int.mul_sub, Int.mul_comm G0 v, ex, ey, Int.mul_left_comm u g v, Int.mul_left_comm v g u, Int.mul_comm u v]
      have e2 : G1 * v = v * G1 := Int.mul_comm ..
      refine ⟨_, rfl, _, rfl, sG0.mul sv, _, rfl, _, rfl, su.mul sG1, _, rfl, _, rfl, sG1.mul sv, ?_, Int.mul_pos p1 v0, ?_, by simp, M, MLe.refl M, ?_⟩
      · rw [e1]; exact Int.mul_nonneg (by omega) (by omega)
      · exact Bd.mul' sG1 sv
      · rw [e1, e2, spd_mul v0]
        exact hq
    · have eX : aX l1 h2 G0 G1 = l1 * G1 := by unfold aX; rw [if_neg (by omega)]
      have es : spd (l1 * G1) G1 = .tup [.int l1, .int 1] := by
        rw [← spd_self l1, Int.mul_comm l1 G1]
        have e := spd_mul p1 l1 1
        rw [Int.mul_one] at e
        exact e
      rw [eX, es] at hq
      have e1 : G0 * 1 - l1 * G1 = G0 - l1 * G1 := by rw [Int.mul_one]
      refine itF (decide_eq_false c2) ?_
      refine ⟨_, rfl, _, rfl, sG0.mul s1, _, rfl, _, rfl, sl1.mul sG1, _, rfl, _, rfl, sG1.mul s1, by omega, by omega, Bd.mul' sG1 s1, by simp, M, MLe.refl M, ?_⟩
      rw [e1, Int.mul_one]
      exact hq
  · rw [if_neg c1] at hq
    have e0 : d = .non := by rw [hd]; unfold gapD; rw [if_neg c1]
    subst e0
    refine ⟨rfl, _, rfl, _, rfl, _, rfl, _, rfl, ⟨by omega, k3, k4, hr⟩, fun d hd => ?_⟩
    by_cases c3 : gapIs (l2 - h1) (h2 - l1) a b = true
    · rw [if_pos c3] at hq
      obtain ⟨G0, G1, t, eG, p0, p1, p2, p3, p4, p5, p6, p7⟩ := gap_facts (by omega) k3 k4 hr c3
      rw [eG] at hq hd
      subst hd
      have hq : q (.tup [spd (bX l1 l2 G0 G1) G1, spd (bX l1 l2 G0 G1 + G0) G1]) M := hq
      have sG0 : Sz G0 := ⟨by omega, by omega⟩
      have sG1 : Sz G1 := ⟨by omega, by omega⟩
      have n1 : 0 ≤ l1 * G1 := Int.mul_nonneg b1 (by omega)
      have n3 : l2 * G1 ≤ 1000 * G1 := Int.mul_le_mul_of_nonneg_right (by omega) (by omega)
      have n4 : l1 * G1 ≤ 1000 * G1 := Int.mul_le_mul_of_nonneg_right (by omega) (by omega)
      have hX0 : 0 ≤ bX l1 l2 G0 G1 := by unfold bX; split <;> omega
      have hXG : bX l1 l2 G0 G1 ≤ 1000 * G1 := by unfold bX; split <;> omega
      refine ⟨rfl, _, rfl, by simp, _, rfl, _, rfl, sl2.mul sG1, _, rfl, ?_⟩
      by_cases c2 : G0 < l2 * G1
      · have eA : l2 * G1 + -1 * G0 = l2 * G1 - G0 := by rw [Int.neg_mul, Int.one_mul]; omega
        refine itT (decide_eq_true c2) ⟨_, rfl, ⟨sl2, sG0, sG1, sm1, p1, by rw [eA]; omega⟩, ?_⟩
        have gp := g0_pos (x := l2 * G1 + -1 * G0) p1
        have le1 : (l2 * G1 + -1 * G0) / g0 (l2 * G1 + -1 * G0) G1 ≤ l2 * G1 + -1 * G0 := Int.ediv_le_self _ (by rw [eA]; omega)
        have le2 : G1 / g0 (l2 * G1 + -1 * G0) G1 ≤ G1 := Int.ediv_le_self _ (by omega)
        have ge1 : 0 ≤ (l2 * G1 + -1 * G0) / g0 (l2 * G1 + -1 * G0) G1 := Int.ediv_nonneg (by rw [eA]; omega) (by omega)
        have ge2 : 0 ≤ G1 / g0 (l2 * G1 + -1 * G0) G1 := Int.ediv_nonneg (by omega) (by omega)
        refine ⟨⟨sl1, s1, ⟨by omega, by rw [eA] at le1; rw [eA]; omega⟩, ⟨by omega, by omega⟩⟩, fun d hd => ?_⟩
        rw [great_is (by rw [eA]; omega) p1, eA] at hd
        have hd : d = spd (bX l1 l2 G0 G1) G1 := hd
        obtain ⟨u, v, g, es, u0, v0, g0', ex, ey, ux, vy⟩ := spd_parts hX0 p1
        rw [es] at hd hq
        subst hd
        dsimp only [st]
        have su : Sz u := ⟨by omega, by omega⟩
        have sv : Sz v := ⟨by omega, by omega⟩
        have e1 : u * G1 + G0 * v = v * (bX l1 l2 G0 G1 + G0) := by
          rw [Int.mul_add, Int.mul_comm G0 v, ex, ey, Int.mul_left_comm u g v, Int.mul_left_comm v g u, Int.mul_comm u v]
        have e2 : v * G1 = v * G1 := rfl
        refine ⟨_, rfl, _, rfl, su.mul sG1, _, rfl, _, rfl, sG0.mul sv, _, rfl, _, rfl, sv.mul sG1, ?_, Int.mul_pos v0 p1, ?_, by simp, M, MLe.refl M, ?_⟩
        · rw [e1]; exact Int.mul_nonneg (by omega) (by omega)
        · exact Bd.mul' sv sG1
        · rw [e1, spd_mul v0]
          exact hq
      · have eX : bX l1 l2 G0 G1 = l1 * G1 := by unfold bX; rw [if_neg (by omega)]
        have es : spd (l1 * G1) G1 = .tup [.int l1, .int 1] := by
          rw [← spd_self l1, Int.mul_comm l1 G1]
          have e := spd_mul p1 l1 1
          rw [Int.mul_one] at e
          exact e
        rw [eX, es] at hq
        have e1 : l1 * G1 + G0 * 1 = l1 * G1 + G0 := by rw [Int.mul_one]
        refine itF (decide_eq_false c2) ?_
        refine ⟨_, rfl, _, rfl, sl1.mul sG1, _, rfl, _, rfl, sG0.mul s1, _, rfl, _, rfl, s1.mul sG1, by omega, by omega, Bd.mul' s1 sG1, by simp, M, MLe.refl M, ?_⟩
        rw [e1, Int.one_mul]
        exact hq
    · rw [if_neg c3] at hq
      have e0 : d = .non := by rw [hd]; unfold gapD; rw [if_neg c3]
      subst e0
      exact ⟨rfl, M, MLe.refl M, hq⟩
end Px

set_option Elab.async false
set_option linter.all false
set_option maxRecDepth 100000
namespace Px
open PySem PySem.Spec PyProof.Rows L2
/-! # the law's own: least common multiples, what is seen, the sides -/
def sp__law_lcm (C : Cl) : PSp := fun ds M q _ => ar1 ds fun d => ∃ ns, isSeq d ns ∧ SmOk ns ∧ ∀ d, d = .int (lcmL ns) → q d M
def rd__law_lcm (C : Cl) : PTS := (dSeq (dSet 1 (dC (.int 1)))
    (dSeq (dFor (iA (dVar 0)) (gNm 2) (dSeq (dPar 3 4 (dCons (dVar 1) (dCons (dVar 2) dNil)))
    (dSeq (dWhile (dTst (dOp fGt (dVar 4) (dC (.int 0)))) (dPar 3 4 (dCons (dVar 4) (dCons (dOp fMod (dVar 3) (dVar 4)) dNil))))
    (dSet 1 (dOp fMul (dOp fDiv (dVar 1) (dVar 3)) (dVar 2))))))
    (dRet (dVar 1))))
theorem sh__law_lcm (C : Cl) : Shows (sp__law_lcm C) 5 (rd__law_lcm C) := by
  intro ds M q e h
  obtain ⟨d, rfl, ns, hd, hn, hq⟩ := ar1_of h
  have hq := hq _ rfl
  dsimp only [rd__law_lcm, dSeq, dInN, dPutN, dGetN, dNewN, dCallL, dCallLK, dRetL, dRetOwn, dNext, dSet, dSetO, dRet, dRetN, dDrop, dIfS, dFor, dPar, dPar3, dParL2, dParL3, dAsg, dFrz, dIf, dTst, dOp, dVar, dOwn, dC, dB1, dG1, dL, dLst, dCons, dNil, dTup, dCall, dCallK, dAnd, dOr, dNot, dAndV, dOrV, dNotV, dNeg, dChain, dNever, dNeverS, dRaise, dYes, gNm, gsCons, gsNil, gTp, gt, st, fAdd, fSub, fMul, fDiv, fMod, fPow, fShl, fShr, fCmp, fEq, fNe, fEqS, fNeS, fIs, fIsNot, fLen, fMin, fMax, fMin2, fMax2, fAll, fAny, fAbs, fTup, fRepr, fIx, atD, isB, ls2, ls3, startR, ar1, ar2, ar3, ar4, asI, asT, asL, asDraw, sp_take, sp_pick, sp_begin, List.map, List.append, List.replicate, List.length, List.cons_append, List.nil_append, Nat.sub_self, Nat.reduceSub, Nat.reduceAdd, dApp, isOwn, appR, dSl, dPt, dNo, slR, asIn, List.map_cons, List.map_nil]
  refine iA_seq (pe := dVar 0) hd (by exact fun q' h => h) ?_
  refine forR_ind (fun rem ρ M' => M' = M ∧ ∃ (a : Int) (rs : List Int) (x2 x3 x4 : Option Sv), ρ = [some (.val d), some (.val (.int a)), x2, x3, x4] ∧ rem = rs.map .int ∧ 0 < a ∧ lcmL ns = rs.foldl lc a ∧ ∀ n ∈ rs, (1 : Int) ≤ n ∧ n ≤ 1000) ?_ ?_ _ _ _ ⟨rfl, 1, ns, _, _, _, rfl, rfl, by decide, rfl, hn.2⟩
  · rintro x r ρ M' ⟨rfl, a, rs, x2, x3, x4, rfl, hr, ha, hl, hp⟩ F hF
    cases rs with
    | nil => cases hr
    | cons n rs =>
      cases hr
      obtain ⟨s1, s2, s3⟩ := lc_step hn ha hl hp
      have hn1 := hp n List.mem_cons_self
      haveI : SzB 60 a := SzB.of (by omega) (by omega)
      have gp := g0_pos (x := a) (show 0 < n by omega)
      have gl := g0_le (x := a) (show 0 < n by omega)
      haveI : SzB 10 n := SzB.of (by omega) (by omega)
      haveI : SzB 10 (g0 a n) := SzB.of (by omega) (by omega)
      dsimp only [dSeq, dInN, dPutN, dGetN, dNewN, dCallL, dCallLK, dRetL, dRetOwn, dNext, dSet, dSetO, dRet, dRetN, dDrop, dIfS, dFor, dPar, dPar3, dParL2, dParL3, dAsg, dFrz, dIf, dTst, dOp, dVar, dOwn, dC, dB1, dG1, dL, dLst, dCons, dNil, dTup, dCall, dCallK, dAnd, dOr, dNot, dAndV, dOrV, dNotV, dNeg, dChain, dNever, dNeverS, dRaise, dYes, gNm, gsCons, gsNil, gTp, gt, st, fAdd, fSub, fMul, fDiv, fMod, fPow, fShl, fShr, fCmp, fEq, fNe, fEqS, fNeS, fIs, fIsNot, fLen, fMin, fMax, fMin2, fMax2, fAll, fAny, fAbs, fTup, fRepr, fIx, atD, isB, ls2, ls3, startR, ar1, ar2, ar3, ar4, asI, asT, asL, asDraw, sp_take, sp_pick, sp_begin, List.map, List.append, List.replicate, List.length, List.cons_append, List.nil_append, Nat.sub_self, Nat.reduceSub, Nat.reduceAdd, dApp, isOwn, appR, dSl, dPt, dNo, slR, asIn, List.map_cons, List.map_nil]
      refine ⟨fun m ρ M2 => ∃ x' y' : Int, ρ = [some (.val d), some (.val (.int a)), some (.val (.int n)), some (.val (.int x')), some (.val (.int y'))] ∧ M2 = M' ∧ 0 ≤ x' ∧ 0 ≤ y' ∧ g0 x' y' = g0 a n ∧ m = y'.toNat, ⟨_, a, n, rfl, rfl, by omega, by omega, rfl, rfl⟩, ?_⟩
      rintro m ρ M2 ⟨x', y', rfl, rfl, g1, g2, g3, rfl⟩
      by_cases hy : 0 < y'
      · refine itT (decide_eq_true hy) ⟨hy, ?_⟩
        have e1 := Int.emod_nonneg x' (show y' ≠ 0 by omega)
        have e2 := Int.emod_lt_of_pos x' hy
        exact ⟨_, by omega, y', x' % y', rfl, rfl, g2, e1, by rw [g0_step]; exact g3, rfl⟩
      · have e0 : y' = 0 := by omega
        rw [e0, g0_zero g1] at g3
        subst g3
        exact itF (decide_eq_false hy) ⟨(SzB.divX (by omega) inferInstance), (SzB.mulX inferInstance inferInstance), hF _ _ ⟨rfl, lc a n, rs, _, _, _, rfl, rfl, s2, s3, fun x q => hp x (List.mem_cons_of_mem _ q)⟩⟩
  · rintro ρ M' ⟨rfl, a, rs, x2, x3, x4, rfl, hr, ha, hl, hp⟩
    have e0 : rs = [] := by cases rs with | nil => rfl | cons => cases hr
    subst e0
    have hl : lcmL ns = a := hl
    exact ⟨M', MLe.refl _, hl ▸ hq⟩
def sp__law_seen (C : Cl) : PSp := fun ds M q _ => ar2 ds fun a b => asI a fun h => asP b fun t b => (0 < h ∧ h ≤ 10 ^ 40 ∧ 0 ≤ t ∧ t ≤ 10 ^ 60 ∧ 0 < b ∧ b ≤ 10 ^ 60) ∧ ∀ d, d = spd (near (2 * h * b) t) b → q d M
def rd__law_seen (C : Cl) : PTS := (dSeq (dAsg (dVar 1) (gTp 2 (gsCons (gNm 2) (gsCons (gNm 3) gsNil))))
    (dSeq (dSet 4 (dOp fMul (dOp fMul (dOp fMul (dOp fDiv (dVar 2) (dOp fMul (dOp fMul (dC (.int 2)) (dVar 0)) (dVar 3))) (dC (.int 2))) (dVar 0)) (dVar 3)))
    (dSeq (dSet 5 (dOp fMin2 (dOp fSub (dVar 2) (dVar 4)) (dOp fSub (dOp fAdd (dVar 4) (dOp fMul (dOp fMul (dC (.int 2)) (dVar 0)) (dVar 3))) (dVar 2))))
    (dRet (dCall sp_frac2 [] (dCons (dVar 5) (dCons (dVar 3) dNil)))))))
theorem sh__law_seen (C : Cl) : Shows (sp__law_seen C) 6 (rd__law_seen C) := by
  intro ds M q e h
  obtain ⟨a, b, rfl, h⟩ := ar2_of h
  obtain ⟨h', e1, h⟩ := asI_of h
  subst e1
  obtain ⟨t, b, rfl, ⟨h1, h2, h3, h4, h5, h6⟩, hq⟩ := asP_of h
  have hq := hq _ rfl
  haveI : SzB 140 h' := SzB.of (by omega) (by omega)
  haveI : SzB 210 t := SzB.of (by omega) (by omega)
  haveI : SzB 210 b := SzB.of (by omega) (by omega)
  have S0 : 0 < 2 * h' * b := Int.mul_pos (by omega) h5
  have e2 : t / (2 * h' * b) * 2 * h' * b = t / (2 * h' * b) * (2 * h' * b) := by rw [Int.mul_assoc, Int.mul_assoc, ← Int.mul_assoc 2 h' b]
  have e3 := Int.emod_add_mul_ediv t (2 * h' * b)
  have e4 : t / (2 * h' * b) * (2 * h' * b) = t - t % (2 * h' * b) := by rw [Int.mul_comm]; omega
  have n0 := near_bounds S0 t
  refine ⟨rfl, (SzB.mulX inferInstance inferInstance), (SzB.mulX inferInstance inferInstance), SzB.divX S0 inferInstance, (SzB.mulX inferInstance inferInstance), (SzB.mulX inferInstance inferInstance), (SzB.mulX inferInstance inferInstance), (SzB.mulX inferInstance inferInstance), (SzB.mulX inferInstance inferInstance), ?_⟩
  dsimp only [dSeq, dInN, dPutN, dGetN, dNewN, dCallL, dCallLK, dRetL, dRetOwn, dNext, dSet, dSetO, dRet, dRetN, dDrop, dIfS, dFor, dPar, dPar3, dParL2, dParL3, dAsg, dFrz, dIf, dTst, dOp, dVar, dOwn, dC, dB1, dG1, dL, dLst, dCons, dNil, dTup, dCall, dCallK, dAnd, dOr, dNot, dAndV, dOrV, dNotV, dNeg, dChain, dNever, dNeverS, dRaise, dYes, gNm, gsCons, gsNil, gTp, gt, st, fAdd, fSub, fMul, fDiv, fMod, fPow, fShl, fShr, fCmp, fEq, fNe, fEqS, fNeS, fIs, fIsNot, fLen, fMin, fMax, fMin2, fMax2, fAll, fAny, fAbs, fTup, fRepr, fIx, atD, isB, ls2, ls3, startR, ar1, ar2, ar3, ar4, asI, asT, asL, asDraw, sp_take, sp_pick, sp_begin, List.map, List.append, List.replicate, List.length, List.cons_append, List.nil_append, Nat.sub_self, Nat.reduceSub, Nat.reduceAdd, dApp, isOwn, appR, dSl, dPt, dNo, slR, asIn, List.map_cons, List.map_nil]
  have e5 : (if t / (2 * h' * b) * 2 * h' * b + 2 * h' * b - t < t - t / (2 * h' * b) * 2 * h' * b then t / (2 * h' * b) * 2 * h' * b + 2 * h' * b - t else t - t / (2 * h' * b) * 2 * h' * b) = near (2 * h' * b) t := by
    rw [e2, e4]
    unfold near
    rw [show t - t % (2 * h' * b) + 2 * h' * b - t = 2 * h' * b - t % (2 * h' * b) by omega, show t - (t - t % (2 * h' * b)) = t % (2 * h' * b) by omega]
  rw [e5]
  exact ⟨⟨n0.1, h5, SzB.bd (m := 210) inferInstance⟩, fun d hd => ⟨M, MLe.refl _, hd ▸ hq⟩⟩
/-! ## the sides as the law has them -/
def stepP (ps : List (List Int × List Int)) (h : Int) : List (List Int × List Int) := ps.flatMap fun p => [(p.1 ++ [h], p.2), (p.1, p.2 ++ [h])]
def partsL (hs : List Int) : List (List Int × List Int) := hs.foldl stepP [([], [])]
theorem mem_foldP : ∀ (hs : List Int) (ps : List (List Int × List Int)) (o t : List Int), (o, t) ∈ hs.foldl stepP ps ↔ ∃ p ∈ ps, ∃ m : List Bool, m.length = hs.length ∧ o = p.1 ++ sel m hs ∧ t = p.2 ++ sel (nots m) hs
  | [], ps, o, t => by
    constructor
    · intro h
      exact ⟨(o, t), h, [], rfl, by simp [sel], by simp [sel, nots]⟩
    · rintro ⟨p, hp, m, hm, rfl, rfl⟩
      have : m = [] := List.eq_nil_of_length_eq_zero hm
      subst this
      simp [sel, nots]
      exact hp
  | h :: r, ps, o, t => by
    rw [List.foldl_cons, mem_foldP r]
    unfold stepP
    constructor
    · rintro ⟨p, hp, m, hm, rfl, rfl⟩
      obtain ⟨p0, h0, h1⟩ := List.mem_flatMap.mp hp
      simp only [List.mem_cons, List.not_mem_nil, or_false] at h1
      rcases h1 with rfl | rfl
      · exact ⟨p0, h0, true :: m, by simp [hm], by simp [sel], by simp [sel, nots]⟩
      · exact ⟨p0, h0, false :: m, by simp [hm], by simp [sel], by simp [sel, nots]⟩
    · rintro ⟨p, hp, m, hm, rfl, rfl⟩
      cases m with
      | nil => cases hm
      | cons b m =>
        have hm2 : m.length = r.length := by simpa using hm
        cases b with
        | true => exact ⟨(p.1 ++ [h], p.2), List.mem_flatMap.mpr ⟨p, hp, List.mem_cons_self⟩, m, hm2, by simp [sel], by simp [sel, nots]⟩
        | false => exact ⟨(p.1, p.2 ++ [h]), List.mem_flatMap.mpr ⟨p, hp, List.mem_cons_of_mem _ List.mem_cons_self⟩, m, hm2, by simp [sel], by simp [sel, nots]⟩
def bothN (p : List Int × List Int) : Bool := !p.1.isEmpty && !p.2.isEmpty
def sidP (hs : List Int) : List (Int × Int) := ((partsL hs).filter bothN).map fun p => (lcmL p.1, lcmL p.2)
theorem mem_sidP {hs : List Int} {a b : Int} : (a, b) ∈ sidP hs ↔ Spl hs a b := by
  unfold sidP
  rw [List.mem_map]
  constructor
  · rintro ⟨⟨o, t⟩, hp, e⟩
    rw [List.mem_filter] at hp
    obtain ⟨p, h0, m, hm, e1, e2⟩ := (mem_foldP hs _ o t).mp hp.1
    rw [List.mem_singleton.mp h0] at e1 e2
    have e1 : o = sel m hs := e1
    have e2 : t = sel (nots m) hs := e2
    have hb := hp.2
    unfold bothN at hb
    simp only [Bool.and_eq_true, Bool.not_eq_true', List.isEmpty_eq_false_iff] at hb
    exact ⟨m, hm, e1 ▸ hb.1, e2 ▸ hb.2, by rw [← e1]; exact (Prod.mk.inj e).1.symm, by rw [← e2]; exact (Prod.mk.inj e).2.symm⟩
  · rintro ⟨m, h1, h2, h3, rfl, rfl⟩
    refine ⟨(sel m hs, sel (nots m) hs), List.mem_filter.mpr ⟨(mem_foldP hs _ _ _).mpr ⟨([], []), List.mem_singleton.mpr rfl, m, h1, rfl, rfl⟩, ?_⟩, rfl⟩
    unfold bothN
    simp only [Bool.and_eq_true, Bool.not_eq_true', List.isEmpty_eq_false_iff]
    exact ⟨h2, h3⟩
theorem parts_len : ∀ (hs : List Int) (ps : List (List Int × List Int)), (hs.foldl stepP ps).length = ps.length * 2 ^ hs.length
  | [], ps => by simp
  | h :: r, ps => by
    rw [List.foldl_cons, parts_len r]
    have e : (stepP ps h).length = ps.length * 2 := by
      unfold stepP
      induction ps with
      | nil => rfl
      | cons p r ih => rw [List.flatMap_cons, List.length_append, ih]; simp; omega
    rw [e, List.length_cons, Nat.pow_succ, Nat.mul_assoc, Nat.mul_comm 2]
def pairL (p : List Int × List Int) : D := .tup [.lst (p.1.map .int), .lst (p.2.map .int)]
def prI (p : Int × Int) : D := .tup [.int p.1, .int p.2]
def sp__law_sides (C : Cl) : PSp := fun ds M q _ => ar1 ds fun d => ∃ hs, isSeq d hs ∧ SmOk hs ∧ ∀ d, d = .lst ((sidP hs).map fun p => .tup [.int p.1, .int p.2]) → q d M
def rd__law_sides (C : Cl) : PTS := (dSeq (dSet 1 (dL (dLst (dCons (dTup (dCons (dL (dLst dNil)) (dCons (dL (dLst dNil)) dNil))) dNil))))
    (dSeq (dFor (iA (dVar 0)) (gNm 2) (dSeq (dSet 3 (dL (dLst dNil)))
    (dSeq (dFor (iA (dVar 1)) (gTp 2 (gsCons (gNm 4) (gsCons (gNm 5) gsNil))) (dSet 3 (dOp fAdd (dVar 3) (dL (dLst (dCons (dTup (dCons (dOp fAdd (dVar 4) (dL (dLst (dCons (dVar 2) dNil)))) (dCons (dVar 5) dNil))) (dCons (dTup (dCons (dVar 4) (dCons (dOp fAdd (dVar 5) (dL (dLst (dCons (dVar 2) dNil)))) dNil))) dNil)))))))
    (dSet 1 (dVar 3)))))
    (dRet (dL (dComp [4, 5] (iA (dVar 1)) (gTp 2 (gsCons (gNm 4) (gsCons (gNm 5) gsNil))) (dAnd (dTst (dOp fNe (dVar 4) (dL (dLst dNil)))) (dTst (dOp fNe (dVar 5) (dL (dLst dNil))))) (dTup (dCons (dCall (sp__law_lcm C) [] (dCons (dVar 4) dNil)) (dCons (dCall (sp__law_lcm C) [] (dCons (dVar 5) dNil)) dNil))))))))
theorem eqD_nil (ns : List Int) : eqD (.lst (ns.map .int)) (.lst []) = ns.isEmpty := by cases ns <;> rfl
theorem okD_ints {k : Nat} (ns : List Int) : (ns.map D.int).all (okD k) = true := by
  rw [List.all_map, List.all_eq_true]
  intro x _
  cases k <;> rfl
theorem okD_il (ns : List Int) : okD 50 (.lst (ns.map .int)) = true := okD_ints (k := 49) ns
theorem okD_it (ns : List Int) : okD 50 (.tup (ns.map .int)) = true := okD_ints (k := 49) ns
set_option maxHeartbeats 1000000 in
theorem sh__law_sides (C : Cl) : Shows (sp__law_sides C) 6 (rd__law_sides C) := by
  intro ds M q e h
  obtain ⟨d, rfl, hs, hd, hh, hq⟩ := ar1_of h
  have hq := hq _ rfl
  have hlen : ∀ ps : List (List Int × List Int), (ps.map pairL).length = ps.length := fun ps => List.length_map ..
  dsimp only [rd__law_sides, dSeq, dInN, dPutN, dGetN, dNewN, dCallL, dCallLK, dRetL, dRetOwn, dNext, dSet, dSetO, dRet, dRetN, dDrop, dIfS, dFor, dPar, dPar3, dParL2, dParL3, dAsg, dFrz, dIf, dTst, dOp, dVar, dOwn, dC, dB1, dG1, dL, dLst, dCons, dNil, dTup, dCall, dCallK, dAnd, dOr, dNot, dAndV, dOrV, dNotV, dNeg, dChain, dNever, dNeverS, dRaise, dYes, gNm, gsCons, gsNil, gTp, gt, st, fAdd, fSub, fMul, fDiv, fMod, fPow, fShl, fShr, fCmp, fEq, fNe, fEqS, fNeS, fIs, fIsNot, fLen, fMin, fMax, fMin2, fMax2, fAll, fAny, fAbs, fTup, fRepr, fIx, atD, isB, ls2, ls3, startR, ar1, ar2, ar3, ar4, asI, asT, asL, asDraw, sp_take, sp_pick, sp_begin, List.map, List.append, List.replicate, List.length, List.cons_append, List.nil_append, Nat.sub_self, Nat.reduceSub, Nat.reduceAdd, dApp, isOwn, appR, dSl, dPt, dNo, slR, asIn, List.map_cons, List.map_nil]
  refine ⟨by simp, by simp, by simp, by simp, ?_⟩
  refine iA_seq (pe := dVar 0) hd (by exact fun q' h => h) ?_
  refine forR_ind (fun rem ρ M' => M' = M ∧ ∃ (ps : List (List Int × List Int)) (rs : List Int) (x2 x3 : Option Sv) (x4 x5 : Option D), rem = rs.map .int ∧ ρ = [some (.val d), some (.val (.lst (ps.map pairL))), x2, x3, x4.map .val, x5.map .val] ∧ partsL hs = rs.foldl stepP ps ∧
    ps.length * 2 ^ rs.length ≤ 64 ∧ ∀ p ∈ ps, p.1.length + rs.length ≤ 6 ∧ p.2.length + rs.length ≤ 6) ?_ ?_ _ _ _ ⟨rfl, [([], [])], hs, none, none, none, none, rfl, rfl, rfl, ?_, ?_⟩
  · rintro x r ρ M' ⟨rfl, ps, rs, x2, x3, x4, x5, hr, rfl, hp, hb, hc⟩ F hF
    cases rs with
    | nil => cases hr
    | cons n rs =>
      cases hr
      rw [List.length_cons, Nat.pow_succ] at hb
      have hb2 : ps.length * 2 ≤ 64 := by
        have : 1 ≤ 2 ^ rs.length := Nat.one_le_two_pow
        have := Nat.mul_le_mul_left (ps.length * 2) this
        rw [Nat.mul_one, Nat.mul_assoc, Nat.mul_comm 2] at this
        omega
      dsimp only [dSeq, dInN, dPutN, dGetN, dNewN, dCallL, dCallLK, dRetL, dRetOwn, dNext, dSet, dSetO, dRet, dRetN, dDrop, dIfS, dFor, dPar, dPar3, dParL2, dParL3, dAsg, dFrz, dIf, dTst, dOp, dVar, dOwn, dC, dB1, dG1, dL, dLst, dCons, dNil, dTup, dCall, dCallK, dAnd, dOr, dNot, dAndV, dOrV, dNotV, dNeg, dChain, dNever, dNeverS, dRaise, dYes, gNm, gsCons, gsNil, gTp, gt, st, fAdd, fSub, fMul, fDiv, fMod, fPow, fShl, fShr, fCmp, fEq, fNe, fEqS, fNeS, fIs, fIsNot, fLen, fMin, fMax, fMin2, fMax2, fAll, fAny, fAbs, fTup, fRepr, fIx, atD, isB, ls2, ls3, startR, ar1, ar2, ar3, ar4, asI, asT, asL, asDraw, sp_take, sp_pick, sp_begin, List.map, List.append, List.replicate, List.length, List.cons_append, List.nil_append, Nat.sub_self, Nat.reduceSub, Nat.reduceAdd, dApp, isOwn, appR, dSl, dPt, dNo, slR, asIn, List.map_cons, List.map_nil]
      refine ⟨by simp, ?_⟩
      dsimp only [iA]
      refine forR_ind (fun rem ρ M2 => M2 = M' ∧ ∃ (acc qs : List (List Int × List Int)) (x4 x5 : Option D), rem = qs.map pairL ∧ ρ = [some (.val d), some (.val (.lst (ps.map pairL))), some (.val (.int n)), some (.val (.lst (acc.map pairL))), x4.map .val, x5.map .val] ∧ stepP ps n = acc ++ stepP qs n ∧ acc.length + 2 * qs.length ≤ 64 ∧ ∀ p ∈ qs, p.1.length ≤ 6 ∧ p.2.length ≤ 6) ?_ ?_ _ _ _ ⟨rfl, [], ps, x4, x5, rfl, rfl, rfl, by simp; omega, fun p hp => by have := hc p hp; omega⟩
      · rintro y r ρ M2 ⟨rfl, acc, qs, x4, x5, hr, rfl, hs, hl, hm⟩ G hG
        cases qs with
        | nil => cases hr
        | cons p qs =>
          cases hr
          obtain ⟨m1, m2⟩ := hm p List.mem_cons_self
          rw [List.length_cons] at hl
          refine ⟨rfl, ?_⟩
          have eo : p.1.map D.int ++ [.int n] = (p.1 ++ [n]).map .int := by simp
          have et : p.2.map D.int ++ [.int n] = (p.2 ++ [n]).map .int := by simp
          dsimp only [dSeq, dInN, dPutN, dGetN, dNewN, dCallL, dCallLK, dRetL, dRetOwn, dNext, dSet, dSetO, dRet, dRetN, dDrop, dIfS, dFor, dPar, dPar3, dParL2, dParL3, dAsg, dFrz, dIf, dTst, dOp, dVar, dOwn, dC, dB1, dG1, dL, dLst, dCons, dNil, dTup, dCall, dCallK, dAnd, dOr, dNot, dAndV, dOrV, dNotV, dNeg, dChain, dNever, dNeverS, dRaise, dYes, gNm, gsCons, gsNil, gTp, gt, st, fAdd, fSub, fMul, fDiv, fMod, fPow, fShl, fShr, fCmp, fEq, fNe, fEqS, fNeS, fIs, fIsNot, fLen, fMin, fMax, fMin2, fMax2, fAll, fAny, fAbs, fTup, fRepr, fIx, atD, isB, ls2, ls3, startR, ar1, ar2, ar3, ar4, asI, asT, asL, asDraw, sp_take, sp_pick, sp_begin, List.map, List.append, List.replicate, List.length, List.cons_append, List.nil_append, Nat.sub_self, Nat.reduceSub, Nat.reduceAdd, dApp, isOwn, appR, dSl, dPt, dNo, slR, asIn, List.map_cons, List.map_nil]
          refine ⟨by simp, by simp; omega, by simp, by simp, by simp; omega, by simp, by simp, by simp; omega, ?_⟩
          refine hG _ _ ⟨rfl, acc ++ [(p.1 ++ [n], p.2), (p.1, p.2 ++ [n])], qs, some (.lst (p.1.map .int)), some (.lst (p.2.map .int)), rfl, ?_, ?_, by simp; omega, fun z hz => hm z (List.mem_cons_of_mem _ hz)⟩
          · rw [eo, et, List.map_append (f := pairL)]; rfl
          · rw [hs]
            unfold stepP
            rw [List.flatMap_cons, List.append_assoc]
      · rintro ρ M2 ⟨rfl, acc, qs, x4, x5, hr, rfl, hs, hl, hm⟩
        have e0 : qs = [] := by cases qs with | nil => rfl | cons => cases hr
        subst e0
        have hs : stepP ps n = acc := by rw [hs]; simp [stepP]
        subst hs
        dsimp only [dSeq, dInN, dPutN, dGetN, dNewN, dCallL, dCallLK, dRetL, dRetOwn, dNext, dSet, dSetO, dRet, dRetN, dDrop, dIfS, dFor, dPar, dPar3, dParL2, dParL3, dAsg, dFrz, dIf, dTst, dOp, dVar, dOwn, dC, dB1, dG1, dL, dLst, dCons, dNil, dTup, dCall, dCallK, dAnd, dOr, dNot, dAndV, dOrV, dNotV, dNeg, dChain, dNever, dNeverS, dRaise, dYes, gNm, gsCons, gsNil, gTp, gt, st, fAdd, fSub, fMul, fDiv, fMod, fPow, fShl, fShr, fCmp, fEq, fNe, fEqS, fNeS, fIs, fIsNot, fLen, fMin, fMax, fMin2, fMax2, fAll, fAny, fAbs, fTup, fRepr, fIx, atD, isB, ls2, ls3, startR, ar1, ar2, ar3, ar4, asI, asT, asL, asDraw, sp_take, sp_pick, sp_begin, List.map, List.append, List.replicate, List.length, List.cons_append, List.nil_append, Nat.sub_self, Nat.reduceSub, Nat.reduceAdd, dApp, isOwn, appR, dSl, dPt, dNo, slR, asIn, List.map_cons, List.map_nil]
        refine hF _ _ ⟨rfl, stepP ps n, rs, _, _, x4, x5, rfl, rfl, hp, ?_, ?_⟩
        · have := parts_len [n] ps
          have e2 : (stepP ps n).length = ps.length * 2 := this
          rw [e2, Nat.mul_assoc, Nat.mul_comm 2]
          exact hb
        · intro z hz
          unfold stepP at hz
          obtain ⟨p0, h0, h1⟩ := List.mem_flatMap.mp hz
          have := hc p0 h0
          rw [List.length_cons] at this
          simp only [List.mem_cons, List.not_mem_nil, or_false] at h1
          rcases h1 with rfl | rfl
          · simp; omega
          · simp; omega
  · rintro ρ M' ⟨rfl, ps, rs, x2, x3, x4, x5, hr, rfl, hp, hb, hc⟩
    have e0 : rs = [] := by cases rs with | nil => rfl | cons => cases hr
    subst e0
    have hp : partsL hs = ps := hp
    subst hp
    have hb : (partsL hs).length ≤ 64 := by simpa using hb
    dsimp only [dSeq, dInN, dPutN, dGetN, dNewN, dCallL, dCallLK, dRetL, dRetOwn, dNext, dSet, dSetO, dRet, dRetN, dDrop, dIfS, dFor, dPar, dPar3, dParL2, dParL3, dAsg, dFrz, dIf, dTst, dOp, dVar, dOwn, dC, dB1, dG1, dL, dLst, dCons, dNil, dTup, dCall, dCallK, dAnd, dOr, dNot, dAndV, dOrV, dNotV, dNeg, dChain, dNever, dNeverS, dRaise, dYes, gNm, gsCons, gsNil, gTp, gt, st, fAdd, fSub, fMul, fDiv, fMod, fPow, fShl, fShr, fCmp, fEq, fNe, fEqS, fNeS, fIs, fIsNot, fLen, fMin, fMax, fMin2, fMax2, fAll, fAny, fAbs, fTup, fRepr, fIx, atD, isB, ls2, ls3, startR, ar1, ar2, ar3, ar4, asI, asT, asL, asDraw, sp_take, sp_pick, sp_begin, List.map, List.append, List.replicate, List.length, List.cons_append, List.nil_append, Nat.sub_self, Nat.reduceSub, Nat.reduceAdd, dApp, isOwn, appR, dSl, dPt, dNo, slR, asIn, List.map_cons, List.map_nil]
    refine ⟨by cases x4 <;> cases x5 <;> rfl, ?_⟩
    dsimp only [iA]
    refine compR_fm (fun d => match d with | .tup [.lst a, .lst b] => (match intsOf a, intsOf b with | some o, some t => if bothN (o, t) = true then some (.tup [.int (lcmL o), .int (lcmL t)]) else none | _, _ => none) | _ => none) _ [] (fun y hy kt kf k => ?_) (by rw [List.length_map]; simp; omega) ?_
    · obtain ⟨p, hp, rfl⟩ := List.mem_map.mp hy
      obtain ⟨o, t⟩ := p
      dsimp only [pairL] at k ⊢
      rw [intsOf_map, intsOf_map] at k
      obtain ⟨p0, h0, m, hm, e1, e2⟩ := (mem_foldP hs _ o t).mp hp
      rw [List.mem_singleton.mp h0] at e1 e2
      have e1 : o = sel m hs := e1
      have e2 : t = sel (nots m) hs := e2
      have so : SmOk o := e1 ▸ hh.sel m
      have sT : SmOk t := e2 ▸ hh.sel _
      refine ⟨rfl, by simp, by rw [okD_il]; rfl, ?_⟩
      rw [eqD_nil]
      cases c1 : o.isEmpty with
      | true =>
        have : bothN (o, t) = false := by unfold bothN; rw [c1]; rfl
        simp only [this, Bool.false_eq_true, if_false] at k
        exact k
      | false =>
        refine ⟨by simp, by rw [okD_il]; rfl, ?_⟩
        rw [eqD_nil]
        cases c2 : t.isEmpty with
        | true =>
          have : bothN (o, t) = false := by unfold bothN; rw [c1, c2]; rfl
          simp only [this, Bool.false_eq_true, if_false] at k
          exact k
        | false =>
          have : bothN (o, t) = true := by unfold bothN; rw [c1, c2]; rfl
          simp only [this, if_true] at k
          refine ⟨o, .inl rfl, so, fun d1 h1 => ⟨t, .inl rfl, sT, fun d2 h2 => ?_⟩⟩
          subst h1 h2
          exact ⟨by simp, k⟩
    · rw [List.nil_append]
      have e3 : ((partsL hs).map pairL).filterMap (fun d => match d with | .tup [.lst a, .lst b] => (match intsOf a, intsOf b with | some o, some t => if bothN (o, t) = true then some (D.tup [.int (lcmL o), .int (lcmL t)]) else none | _, _ => none) | _ => none) = (sidP hs).map fun p => D.tup [.int p.1, .int p.2] := by
        unfold sidP
        rw [List.filterMap_map]
        generalize partsL hs = qs
        induction qs with
        | nil => rfl
        | cons p r ih =>
          rw [List.filterMap_cons, ih, List.filter_cons]
          dsimp only [Function.comp, pairL]
          rw [intsOf_map, intsOf_map]
          cases c : bothN p with
          | true => simp [c]
          | false => simp [c]
      rw [e3]
      exact ⟨M', MLe.refl _, hq⟩
  · have : 2 ^ hs.length ≤ 2 ^ 6 := Nat.pow_le_pow_right (by decide) hh.1
    simp; omega
  · intro p hp
    rw [List.mem_singleton.mp hp]
    have := hh.1
    simp; omega
end Px

set_option Elab.async false
set_option linter.all false
set_option maxRecDepth 100000
namespace Px
open PySem PySem.Spec PyProof.Rows L2
/-! # ends, pairs: the program's and the law's say the same -/
theorem minL_congr {a : Int} {r s : List Int} (h : ∀ x, x ∈ r ↔ x ∈ s) : minL a r = minL a s := by
  obtain ⟨h1, h2⟩ := minL_le r a
  obtain ⟨h3, h4⟩ := minL_le s a
  have m1 := minL_mem r a
  have m2 := minL_mem s a
  have e1 : minL a s ≤ minL a r := by
    rcases List.mem_cons.mp m1 with z | z
    · rw [z]; exact h3
    · exact h4 _ ((h _).mp z)
  have e2 : minL a r ≤ minL a s := by
    rcases List.mem_cons.mp m2 with z | z
    · rw [z]; exact h1
    · exact h2 _ ((h _).mpr z)
  omega
theorem mem_sums {hs : List Int} {x : Int} : x ∈ (sidP hs).map (fun p => p.1 + p.2) ↔ x ∈ sumsP hs := by
  unfold sumsP
  rw [List.mem_map, List.mem_map]
  constructor
  · rintro ⟨p, hp, e⟩; exact ⟨p, mem_splP.mpr (mem_sidP.mp hp), e⟩
  · rintro ⟨p, hp, e⟩; exact ⟨p, mem_sidP.mpr (mem_splP.mp hp), e⟩
theorem sumsP_mem {hs : List Int} {x : Int} : x ∈ sumsP hs ↔ ∃ a b, Spl hs a b ∧ x = a + b := by
  unfold sumsP
  rw [List.mem_map]
  constructor
  · rintro ⟨p, hp, e⟩; exact ⟨p.1, p.2, mem_splP.mp hp, e.symm⟩
  · rintro ⟨a, b, h, e⟩; exact ⟨(a, b), mem_splP.mpr h, e.symm⟩
theorem endIn_is {hs : List Int} : decide (lcmL hs < minL (lcmL hs + 1) (sumsP hs)) = endIn hs := by
  obtain ⟨h1, h2⟩ := minL_le (sumsP hs) (lcmL hs + 1)
  have m := minL_mem (sumsP hs) (lcmL hs + 1)
  unfold endIn
  cases c : (sumsP hs).all fun s => decide (lcmL hs < s) with
  | true =>
    rw [List.all_eq_true] at c
    refine decide_eq_true ?_
    rcases List.mem_cons.mp m with z | z
    · omega
    · exact of_decide_eq_true (c _ z)
  | false =>
    refine decide_eq_false fun z => ?_
    have : ((sumsP hs).all fun s => decide (lcmL hs < s)) = true := List.all_eq_true.mpr fun s hs' => decide_eq_true (by have := h2 s hs'; omega)
    rw [this] at c; cases c
theorem sidP_len {hs : List Int} (h : SmOk hs) : (sidP hs).length ≤ 64 := by
  unfold sidP
  rw [List.length_map]
  refine Nat.le_trans (List.length_filter_le ..) ?_
  unfold partsL
  rw [parts_len]
  have : 2 ^ hs.length ≤ 2 ^ 6 := Nat.pow_le_pow_right (by decide) h.1
  simp; omega
def sp__law_end (C : Cl) : PSp := fun ds M q _ => ar1 ds fun d => ∃ hs, isSeq d hs ∧ SmOk hs ∧ ∀ d, d = .tup [.int (endV hs), .bl (endIn hs)] → q d M
def rd__law_end (C : Cl) : PTS := (dSeq (dSet 1 (dCall (sp__law_lcm C) [] (dCons (dVar 0) dNil)))
    (dSeq (dSet 2 (dL (dComp [3, 4] (iA (dCall (sp__law_sides C) [] (dCons (dVar 0) dNil))) (gTp 2 (gsCons (gNm 3) (gsCons (gNm 4) gsNil))) dYes (dOp fAdd (dVar 3) (dVar 4)))))
    (dRet (dTup (dCons (dB1 fMin (dOp fAdd (dL (dLst (dCons (dVar 1) dNil))) (dVar 2))) (dCons (dOp fGt (dB1 fMin (dOp fAdd (dL (dLst (dCons (dOp fAdd (dVar 1) (dC (.int 1))) dNil))) (dVar 2))) (dVar 1)) dNil))))))
theorem sh__law_end (C : Cl) : Shows (sp__law_end C) 5 (rd__law_end C) := by
  intro ds M q e h
  obtain ⟨d, rfl, hs, hd, hh, hq⟩ := ar1_of h
  have hq := hq _ rfl
  have hl := sidP_len hh
  refine ⟨hs, hd, hh, fun d1 h1 => ?_⟩
  subst h1
  refine ⟨rfl, hs, hd, hh, fun d1 h1 => ?_⟩
  subst h1
  refine compR_map addD _ (fun x hx kt kf k => ?_) (by rw [List.length_map]; omega) ?_
  · obtain ⟨p, hp, rfl⟩ := mem_prs hx
    exact ⟨rfl, k⟩
  have e1 : ((sidP hs).map fun p => D.tup [.int p.1, .int p.2]).map addD = ((sidP hs).map fun p => p.1 + p.2).map .int := by
    rw [List.map_map, List.map_map]; rfl
  rw [e1]
  refine ⟨by simp, ?_⟩
  refine ⟨by rw [List.length_map, List.length_map]; simp; omega, ?_⟩
  refine fMin_ints (n := lcmL hs) (r := (sidP hs).map fun p => p.1 + p.2) ?_
  refine ⟨by simp, by rw [List.length_map, List.length_map]; simp; omega, ?_⟩
  refine fMin_ints (n := lcmL hs + 1) (r := (sidP hs).map fun p => p.1 + p.2) ?_
  refine ⟨by simp, M, MLe.refl _, ?_⟩
  rw [minL_congr (fun _ => mem_sums), minL_congr (fun _ => mem_sums)]
  show q (.tup [.int (endV hs), .bl (decide (lcmL hs < minL (lcmL hs + 1) (sumsP hs)))]) M
  rw [endIn_is]
  exact hq
def mixB (hs : List Int) (lo hi : Int) : Bool := (pairV hs lo hi).isSome
theorem mixB_is {hs : List Int} {lo hi : Int} : mixB hs lo hi = (decide (2 * lcmL hs ≤ hi - lo) || (decide ((lo / lcmL hs + 1) * lcmL hs < hi) || (sidP hs).any (fitsIn lo hi))) := by
  unfold mixB pairV
  by_cases c1 : 2 * lcmL hs ≤ hi - lo
  · rw [if_pos c1, decide_eq_true c1]; rfl
  · rw [if_neg c1, decide_eq_false c1]
    by_cases c2 : (lo / lcmL hs + 1) * lcmL hs < hi
    · rw [if_pos c2, decide_eq_true c2]; rfl
    · rw [if_neg c2, decide_eq_false c2, Option.isSome_map, Bool.false_or, Bool.false_or]
      rw [Bool.eq_iff_iff, List.find?_isSome, List.any_eq_true]
      constructor
      · rintro ⟨p, h1, h2⟩; exact ⟨p, mem_sidP.mpr (mem_splP.mp h1), h2⟩
      · rintro ⟨p, h1, h2⟩; exact ⟨p, mem_splP.mpr (mem_sidP.mp h1), h2⟩
def sp__law_is_mixed (C : Cl) : PSp := fun ds M q _ => ar3 ds fun d a b => ∃ hs, isSeq d hs ∧ SmOk hs ∧ asI a fun lo => asI b fun hi => (NmOk lo ∧ NmOk hi) ∧ ∀ d, d = .bl (mixB hs lo hi) → q d M
def rd__law_is_mixed (C : Cl) : PTS := (dSeq (dSet 3 (dCall (sp__law_lcm C) [] (dCons (dVar 0) dNil)))
    (dSeq (dIfS (dOr (dTst (dOp fGe (dOp fSub (dVar 2) (dVar 1)) (dOp fMul (dC (.int 2)) (dVar 3)))) (dTst (dOp fLt (dOp fMul (dOp fAdd (dOp fDiv (dVar 1) (dVar 3)) (dC (.int 1))) (dVar 3)) (dVar 2)))) (dRet (dC (.bl true))) dNext)
    (dSeq (dFor (iA (dCall (sp__law_sides C) [] (dCons (dVar 0) dNil))) (gTp 2 (gsCons (gNm 4) (gsCons (gNm 5) gsNil))) (dIfS (dTst (dOp fLe (dOp fSub (dC (.int 0)) (dOp fMul (dOp fDiv (dOp fSub (dOp fSub (dC (.int 0)) (dVar 1)) (dVar 4)) (dVar 5)) (dVar 5))) (dOp fSub (dVar 2) (dVar 4)))) (dRet (dC (.bl true))) dNext))
    (dRet (dC (.bl false))))))
theorem sidP_sm {hs : List Int} (h : SmOk hs) {p : Int × Int} (hp : p ∈ sidP hs) : 0 < p.1 ∧ 0 < p.2 ∧ p.1 ≤ 10 ^ 18 ∧ p.2 ≤ 10 ^ 18 := splP_sm h (mem_splP.mpr (mem_sidP.mp hp))
theorem fits_as {lo hi : Int} {p : Int × Int} : (0 - (0 - lo - p.1) / p.2 * p.2 ≤ hi - p.1) ↔ fitsIn lo hi p = true := by
  unfold fitsIn spot
  rw [decide_eq_true_eq, show 0 - lo - p.1 = -(lo + p.1) by omega, Int.neg_mul, Int.zero_sub]
theorem sh__law_is_mixed (C : Cl) : Shows (sp__law_is_mixed C) 6 (rd__law_is_mixed C) := by
  intro ds M q e h
  obtain ⟨d, x, y, rfl, hs, hd, hh, h⟩ := ar3_of h
  obtain ⟨lo, e1, h⟩ := asI_of h
  obtain ⟨hi, e2, ⟨h1, h2⟩, hq⟩ := asI_of h
  subst e1 e2
  have hq := hq _ rfl
  rw [mixB_is] at hq
  have hw := hh.lcm
  haveI := h1.sz
  haveI := h2.sz
  have sp := fun p => sidP_sm hh (p := p)
  haveI : SzB 60 (lcmL hs) := SzB.of (by omega) (by omega)
  refine ⟨hs, hd, hh, fun d1 hd1 => ?_⟩
  subst hd1
  generalize hL : lcmL hs = L at *
  refine ⟨(SzB.mulX inferInstance inferInstance), ?_⟩
  by_cases c1 : 2 * L ≤ hi - lo
  · rw [decide_eq_true c1] at hq
    exact itT (decide_eq_true c1) ⟨M, MLe.refl _, hq⟩
  rw [decide_eq_false c1] at hq
  refine itF (decide_eq_false c1) ⟨(SzB.divX (by omega) inferInstance), (SzB.mulX inferInstance inferInstance), ?_⟩
  dsimp only [dSeq, dInN, dPutN, dGetN, dNewN, dCallL, dCallLK, dRetL, dRetOwn, dNext, dSet, dSetO, dRet, dRetN, dDrop, dIfS, dFor, dPar, dPar3, dParL2, dParL3, dAsg, dFrz, dIf, dTst, dOp, dVar, dOwn, dC, dB1, dG1, dL, dLst, dCons, dNil, dTup, dCall, dCallK, dAnd, dOr, dNot, dAndV, dOrV, dNotV, dNeg, dChain, dNever, dNeverS, dRaise, dYes, gNm, gsCons, gsNil, gTp, gt, st, fAdd, fSub, fMul, fDiv, fMod, fPow, fShl, fShr, fCmp, fEq, fNe, fEqS, fNeS, fIs, fIsNot, fLen, fMin, fMax, fMin2, fMax2, fAll, fAny, fAbs, fTup, fRepr, fIx, atD, isB, ls2, ls3, startR, ar1, ar2, ar3, ar4, asI, asT, asL, asDraw, sp_take, sp_pick, sp_begin, List.map, List.append, List.replicate, List.length, List.cons_append, List.nil_append, Nat.sub_self, Nat.reduceSub, Nat.reduceAdd, dApp, isOwn, appR, dSl, dPt, dNo, slR, asIn, List.map_cons, List.map_nil]
  by_cases c2 : (lo / L + 1) * L < hi
  · rw [decide_eq_true c2] at hq
    exact itT (decide_eq_true c2) ⟨M, MLe.refl _, hq⟩
  rw [decide_eq_false c2, Bool.false_or, Bool.false_or] at hq
  refine itF (decide_eq_false c2) ?_
  refine ⟨hs, hd, hh, fun d1 hd1 => ?_⟩
  subst hd1
  refine forR_ind (fun rem ρ M' => M' = M ∧ ∃ (ps : List (Int × Int)) (x4 x5 : Option Sv), rem = ps.map (fun p => D.tup [.int p.1, .int p.2]) ∧ ρ = [some (.val d), some (.val (.int lo)), some (.val (.int hi)), some (.val (.int L)), x4, x5] ∧
    (∀ p ∈ ps, p ∈ sidP hs) ∧ (sidP hs).any (fitsIn lo hi) = ps.any (fitsIn lo hi)) ?_ ?_ _ _ _ ⟨rfl, sidP hs, none, none, rfl, rfl, fun _ z => z, rfl⟩
  · rintro x r ρ M' ⟨rfl, ps, x5, x6, hr, rfl, hm, hf⟩ F hF
    cases ps with
    | nil => cases hr
    | cons p ps =>
      cases hr
      obtain ⟨p1, p2, p3, p4⟩ := sp p (hm p List.mem_cons_self)
      haveI : SzB 60 p.1 := SzB.of (by omega) (by omega)
      haveI : SzB 60 p.2 := SzB.of (by omega) (by omega)
      rw [List.any_cons] at hf
      refine ⟨rfl, (SzB.divX (by omega) inferInstance), (SzB.mulX inferInstance inferInstance), ?_⟩
      dsimp only [dSeq, dInN, dPutN, dGetN, dNewN, dCallL, dCallLK, dRetL, dRetOwn, dNext, dSet, dSetO, dRet, dRetN, dDrop, dIfS, dFor, dPar, dPar3, dParL2, dParL3, dAsg, dFrz, dIf, dTst, dOp, dVar, dOwn, dC, dB1, dG1, dL, dLst, dCons, dNil, dTup, dCall, dCallK, dAnd, dOr, dNot, dAndV, dOrV, dNotV, dNeg, dChain, dNever, dNeverS, dRaise, dYes, gNm, gsCons, gsNil, gTp, gt, st, fAdd, fSub, fMul, fDiv, fMod, fPow, fShl, fShr, fCmp, fEq, fNe, fEqS, fNeS, fIs, fIsNot, fLen, fMin, fMax, fMin2, fMax2, fAll, fAny, fAbs, fTup, fRepr, fIx, atD, isB, ls2, ls3, startR, ar1, ar2, ar3, ar4, asI, asT, asL, asDraw, sp_take, sp_pick, sp_begin, List.map, List.append, List.replicate, List.length, List.cons_append, List.nil_append, Nat.sub_self, Nat.reduceSub, Nat.reduceAdd, dApp, isOwn, appR, dSl, dPt, dNo, slR, asIn, List.map_cons, List.map_nil]
      by_cases c3 : 0 - (0 - lo - p.1) / p.2 * p.2 ≤ hi - p.1
      · rw [fits_as.mp c3] at hf
        rw [hf] at hq
        exact itT (decide_eq_true c3) ⟨M', MLe.refl _, hq⟩
      · rw [show fitsIn lo hi p = false by rw [← Bool.not_eq_true]; exact fun z => c3 (fits_as.mpr z)] at hf
        exact itF (decide_eq_false c3) (hF _ _ ⟨rfl, ps, _, _, rfl, rfl, fun y hy => hm y (List.mem_cons_of_mem _ hy), hf⟩)
  · rintro ρ M' ⟨rfl, ps, x5, x6, hr, rfl, hm, hf⟩
    have e0 : ps = [] := by cases ps with | nil => rfl | cons => cases hr
    subst e0
    rw [hf] at hq
    exact ⟨M', MLe.refl _, hq⟩
def alikeB (hs : List Int) (t b u v : Int) : Bool := hs.all fun h => eqD (spd (near (2 * h * b) t) b) (spd (near (2 * h * v) u) v)
def SpB (t b : Int) : Prop := 0 ≤ t ∧ t ≤ 10 ^ 60 ∧ 0 < b ∧ b ≤ 10 ^ 60
def sp__law_alike (C : Cl) : PSp := fun ds M q _ => ar2 ds fun d p => ∃ hs t b u v, isSeq d hs ∧ p = .tup [.tup [.int t, .int b], .tup [.int u, .int v]] ∧ SmOk hs ∧ SpB t b ∧ SpB u v ∧ ∀ d, d = .bl (alikeB hs t b u v) → q d M
def rd__law_alike (C : Cl) : PTS := (dRet (dOp fEq (dL (dComp [2] (iA (dVar 0)) (gNm 2) (dTst (dOp fNe (dCall (sp__law_seen C) [] (dCons (dVar 2) (dCons (dOp fIx (dVar 1) (dC (.int 0))) dNil))) (dCall (sp__law_seen C) [] (dCons (dVar 2) (dCons (dOp fIx (dVar 1) (dC (.int 1))) dNil))))) (dVar 2))) (dL (dLst dNil))))
theorem sh__law_alike (C : Cl) : Shows (sp__law_alike C) 3 (rd__law_alike C) := by
  intro ds M q e h
  obtain ⟨d, p, rfl, hs, t, b, u, v, hd, rfl, hh, s1, s2, hq⟩ := ar2_of h
  have hq := hq _ rfl
  dsimp only [rd__law_alike, dSeq, dInN, dPutN, dGetN, dNewN, dCallL, dCallLK, dRetL, dRetOwn, dNext, dSet, dSetO, dRet, dRetN, dDrop, dIfS, dFor, dPar, dPar3, dParL2, dParL3, dAsg, dFrz, dIf, dTst, dOp, dVar, dOwn, dC, dB1, dG1, dL, dLst, dCons, dNil, dTup, dCall, dCallK, dAnd, dOr, dNot, dAndV, dOrV, dNotV, dNeg, dChain, dNever, dNeverS, dRaise, dYes, gNm, gsCons, gsNil, gTp, gt, st, fAdd, fSub, fMul, fDiv, fMod, fPow, fShl, fShr, fCmp, fEq, fNe, fEqS, fNeS, fIs, fIsNot, fLen, fMin, fMax, fMin2, fMax2, fAll, fAny, fAbs, fTup, fRepr, fIx, atD, isB, ls2, ls3, startR, ar1, ar2, ar3, ar4, asI, asT, asL, asDraw, sp_take, sp_pick, sp_begin, List.map, List.append, List.replicate, List.length, List.cons_append, List.nil_append, Nat.sub_self, Nat.reduceSub, Nat.reduceAdd, dApp, isOwn, appR, dSl, dPt, dNo, slR, asIn, List.map_cons, List.map_nil]
  refine ⟨rfl, ?_⟩
  refine iA_seq (pe := dVar 0) hd (by exact fun q' h => h) ?_
  refine compR_flt (fun d => match d with | .int h => !eqD (spd (near (2 * h * b) t) b) (spd (near (2 * h * v) u) v) | _ => false) _ (fun x hx kt kf k => ?_) (by rw [List.length_map]; have := hh.1; omega) ?_
  · obtain ⟨n, hn, rfl⟩ := List.mem_map.mp hx
    have := hh.2 n hn
    refine ⟨_, rfl, ⟨by omega, by omega, s1⟩, fun d1 h1 => ⟨_, rfl, ⟨by omega, by omega, s2⟩, fun d2 h2 => ?_⟩⟩
    subst h1 h2
    exact ⟨rfl, k⟩
  · have e1 : (hs.map D.int).filter (fun d => match d with | .int h => !eqD (spd (near (2 * h * b) t) b) (spd (near (2 * h * v) u) v) | _ => false) = (hs.filter fun h => !eqD (spd (near (2 * h * b) t) b) (spd (near (2 * h * v) u) v)).map .int := by
      rw [List.filter_map]; rfl
    rw [e1]
    refine ⟨by simp, by rw [okD_il]; rfl, M, MLe.refl _, ?_⟩
    rw [eqD_nil]
    have e2 : (hs.filter fun h => !eqD (spd (near (2 * h * b) t) b) (spd (near (2 * h * v) u) v)).isEmpty = alikeB hs t b u v := by
      unfold alikeB
      clear hq h hd hh e1
      clear hq
      induction hs with
      | nil => rfl
      | cons x r ih =>
        rw [List.filter_cons, List.all_cons, ← ih]
        cases eqD (spd (near (2 * x * b) t) b) (spd (near (2 * x * v) u) v) <;> rfl
    rw [e2]
    exact hq
/-! ## what the numbers say -/
theorem alike_int {hs : List Int} (hp : PosL hs) {x y : Int} : alikeB hs x 1 y 1 = true ↔ ∀ h ∈ hs, (x - y) % (2 * h) = 0 ∨ (x + y) % (2 * h) = 0 := by
  unfold alikeB
  rw [List.all_eq_true]
  have e : ∀ h ∈ hs, (eqD (spd (near (2 * h * 1) x) 1) (spd (near (2 * h * 1) y) 1) = true ↔ (x - y) % (2 * h) = 0 ∨ (x + y) % (2 * h) = 0) := fun h hh => by
    rw [eqD_spd (by decide), decide_eq_true_eq, Int.mul_one, near_iff (by have := hp h hh; omega)]
  exact ⟨fun z h hh => (e h hh).mp (z h hh), fun z h hh => (e h hh).mpr (z h hh)⟩
/-- of two fractions over one bottom -/
theorem alike_spd {hs : List Int} (hp : PosL hs) {x y B : Int} (hB : 0 < B) : alikeB hs (x / g0 x B) (B / g0 x B) (y / g0 y B) (B / g0 y B) = true ↔ ∀ h ∈ hs, (x - y) % (2 * h * B) = 0 ∨ (x + y) % (2 * h * B) = 0 := by
  unfold alikeB
  rw [List.all_eq_true]
  have e : ∀ h ∈ hs, (eqD (spd (near (2 * h * (B / g0 x B)) (x / g0 x B)) (B / g0 x B)) (spd (near (2 * h * (B / g0 y B)) (y / g0 y B)) (B / g0 y B)) = true ↔ (x - y) % (2 * h * B) = 0 ∨ (x + y) % (2 * h * B) = 0) := fun h hh => by
    have f1 : spd (near (2 * h * (B / g0 x B)) (x / g0 x B)) (B / g0 x B) = _ := fold_spd (h := h) (t := x) hB
    have f2 : spd (near (2 * h * (B / g0 y B)) (y / g0 y B)) (B / g0 y B) = _ := fold_spd (h := h) (t := y) hB
    rw [f1, f2, eqD_spd hB, decide_eq_true_eq, near_iff (Int.mul_pos (by have := hp h hh; omega) hB)]
  exact ⟨fun z h hh => (e h hh).mp (z h hh), fun z h hh => (e h hh).mpr (z h hh)⟩
theorem spot_spec {lo a b : Int} (hb : 0 < b) : lo + a ≤ spot lo a b ∧ b ∣ spot lo a b ∧ ∀ m, b ∣ m → lo + a ≤ m → spot lo a b ≤ m := by
  unfold spot
  have e1 := Int.mul_ediv_add_emod (-(lo + a)) b
  have e2 := Int.emod_nonneg (-(lo + a)) (show b ≠ 0 by omega)
  have e3 := Int.emod_lt_of_pos (-(lo + a)) hb
  have e4 : -(-(lo + a) / b) * b = -(b * (-(lo + a) / b)) := by rw [Int.neg_mul, Int.mul_comm]
  refine ⟨by rw [e4]; omega, Int.dvd_mul_left .., fun m hm h => ?_⟩
  obtain ⟨k, rfl⟩ := hm
  have h1 : -k ≤ -(lo + a) / b ∨ -(lo + a) / b < -k := by omega
  rcases h1 with h1 | h1
  · have := Int.mul_le_mul_of_nonneg_left h1 (show 0 ≤ b by omega)
    rw [Int.mul_neg] at this
    rw [e4]; omega
  · have := Int.mul_le_mul_of_nonneg_left (show -(lo + a) / b + 1 ≤ -k by omega) (show 0 ≤ b by omega)
    rw [Int.mul_neg, Int.mul_add, Int.mul_one] at this
    omega
theorem pairV_right {hs : List Int} (hp : PosL hs) {lo hi x y : Int} (h : pairV hs lo hi = some (x, y)) : lo ≤ x ∧ x < y ∧ y ≤ hi ∧ ∀ h ∈ hs, (x - y) % (2 * h) = 0 ∨ (x + y) % (2 * h) = 0 := by
  have hL := lcmL_pos hp
  unfold pairV at h
  by_cases c1 : 2 * lcmL hs ≤ hi - lo
  · rw [if_pos c1] at h
    cases h
    refine ⟨Int.le_refl _, by omega, by omega, fun h hh => .inl ?_⟩
    rw [show lo - (lo + 2 * lcmL hs) = -(2 * lcmL hs) by omega]
    exact Int.emod_eq_zero_of_dvd (Int.dvd_neg.mpr (Int.mul_dvd_mul_left 2 (lcmL_self hp hh)))
  rw [if_neg c1] at h
  by_cases c2 : (lo / lcmL hs + 1) * lcmL hs < hi
  · rw [if_pos c2] at h
    cases h
    have e1 := Int.mul_ediv_add_emod lo (lcmL hs)
    have e3 := Int.emod_lt_of_pos lo hL
    have e4 : (lo / lcmL hs + 1) * lcmL hs = lcmL hs * (lo / lcmL hs) + lcmL hs := by rw [Int.add_mul, Int.one_mul, Int.mul_comm]
    refine ⟨by omega, by omega, by omega, fun h hh => .inr ?_⟩
    rw [show (lo / lcmL hs + 1) * lcmL hs - 1 + ((lo / lcmL hs + 1) * lcmL hs + 1) = 2 * ((lo / lcmL hs + 1) * lcmL hs) by omega]
    exact Int.emod_eq_zero_of_dvd (Int.mul_dvd_mul_left 2 (Int.dvd_trans (lcmL_self hp hh) (Int.dvd_mul_left ..)))
  rw [if_neg c2] at h
  cases c : (splP hs).find? (fitsIn lo hi) with
  | none => rw [c] at h; cases h
  | some p =>
    rw [c] at h
    cases h
    have hf : spot lo p.1 p.2 ≤ hi - p.1 := by
      have := List.find?_some c
      exact of_decide_eq_true this
    have hm : Spl hs p.1 p.2 := mem_splP.mp (List.mem_of_find?_eq_some c)
    have ps := hm.pos hp
    obtain ⟨s1, s2, _⟩ := spot_spec (lo := lo) (a := p.1) ps.2
    refine ⟨by omega, by omega, by omega, fun h hh => ?_⟩
    rcases hm.dvd hp hh with z | z
    · left
      rw [show spot lo p.1 p.2 - p.1 - (spot lo p.1 p.2 + p.1) = -(2 * p.1) by omega]
      exact Int.emod_eq_zero_of_dvd (Int.dvd_neg.mpr (Int.mul_dvd_mul_left 2 z))
    · right
      rw [show spot lo p.1 p.2 - p.1 + (spot lo p.1 p.2 + p.1) = 2 * spot lo p.1 p.2 by omega]
      exact Int.emod_eq_zero_of_dvd (Int.mul_dvd_mul_left 2 (Int.dvd_trans z s2))
theorem mixB_iff {hs : List Int} {lo hi : Int} : mixB hs lo hi = true ↔ 2 * lcmL hs ≤ hi - lo ∨ (lo / lcmL hs + 1) * lcmL hs < hi ∨ ∃ a b, Spl hs a b ∧ spot lo a b ≤ hi - a := by
  rw [mixB_is, Bool.or_eq_true, Bool.or_eq_true, decide_eq_true_eq, decide_eq_true_eq, List.any_eq_true]
  constructor
  · rintro (h | h | ⟨p, h1, h2⟩)
    · exact .inl h
    · exact .inr (.inl h)
    · exact .inr (.inr ⟨p.1, p.2, mem_sidP.mp h1, of_decide_eq_true h2⟩)
  · rintro (h | h | ⟨a, b, h1, h2⟩)
    · exact .inl h
    · exact .inr (.inl h)
    · exact .inr (.inr ⟨(a, b), mem_sidP.mpr h1, decide_eq_true h2⟩)
/-- the end -/
theorem endV_spec {hs : List Int} (hp : PosL hs) : 0 < endV hs ∧ endV hs ≤ lcmL hs ∧ (∀ a b, Spl hs a b → endV hs ≤ a + b) ∧ (endV hs = lcmL hs ∨ ∃ a b, Spl hs a b ∧ endV hs = a + b) := by
  obtain ⟨h1, h2⟩ := minL_le (sumsP hs) (lcmL hs)
  have m := minL_mem (sumsP hs) (lcmL hs)
  have hL := lcmL_pos hp
  have h3 : endV hs = lcmL hs ∨ ∃ a b, Spl hs a b ∧ endV hs = a + b := by
    rcases List.mem_cons.mp m with z | z
    · exact .inl z
    · obtain ⟨a, b, h, e⟩ := sumsP_mem.mp z
      exact .inr ⟨a, b, h, e⟩
  refine ⟨?_, h1, fun a b h => h2 _ (sumsP_mem.mpr ⟨a, b, h, rfl⟩), h3⟩
  rcases h3 with z | ⟨a, b, h, z⟩
  · omega
  · have := h.pos hp; omega
theorem endIn_iff {hs : List Int} : endIn hs = true ↔ ∀ a b, Spl hs a b → lcmL hs < a + b := by
  unfold endIn
  rw [List.all_eq_true]
  constructor
  · intro h a b s; exact of_decide_eq_true (h _ (sumsP_mem.mpr ⟨a, b, s, rfl⟩))
  · intro h x hx
    obtain ⟨a, b, s, e⟩ := sumsP_mem.mp hx
    rw [e]; exact decide_eq_true (h a b s)
theorem mix_below {hs : List Int} (hp : PosL hs) : mixB hs 0 (endV hs - 1) = false := by
  obtain ⟨e0, e1, e2, _⟩ := endV_spec hp
  rw [← Bool.not_eq_true, mixB_iff]
  rintro (h | h | ⟨a, b, h1, h2⟩)
  · omega
  · rw [Int.zero_ediv, Int.zero_add, Int.one_mul] at h; omega
  · have := h1.pos hp
    obtain ⟨s1, s2, _⟩ := spot_spec (lo := 0) (a := a) this.2
    have := Int.le_of_dvd (by omega) s2
    have := e2 a b h1
    omega
theorem mix_at {hs : List Int} (hp : PosL hs) : mixB hs 0 (endV hs) = !endIn hs := by
  obtain ⟨e0, e1, e2, e3⟩ := endV_spec hp
  have hL := lcmL_pos hp
  cases c : endIn hs with
  | true =>
    have c := endIn_iff.mp c
    show mixB hs 0 (endV hs) = false
    rw [← Bool.not_eq_true, mixB_iff]
    rintro (h | h | ⟨a, b, h1, h2⟩)
    · omega
    · rw [Int.zero_ediv, Int.zero_add, Int.one_mul] at h; omega
    · have := h1.pos hp
      obtain ⟨s1, s2, _⟩ := spot_spec (lo := 0) (a := a) this.2
      have := Int.le_of_dvd (by omega) s2
      have := c a b h1
      omega
  | false =>
    have c' : ¬ ∀ a b, Spl hs a b → lcmL hs < a + b := fun z => by rw [endIn_iff.mpr z] at c; cases c
    refine mixB_iff.mpr (.inr (.inr ?_))
    have ⟨a, b, s, e⟩ : ∃ a b, Spl hs a b ∧ endV hs = a + b := by
      rcases e3 with z | z
      · by_cases q : ∃ a b, Spl hs a b ∧ endV hs = a + b
        · exact q
        · exfalso
          refine c' fun a b s => ?_
          have := e2 a b s
          have : endV hs ≠ a + b := fun y => q ⟨a, b, s, y⟩
          omega
      · exact z
    have ps := s.pos hp
    have key : ∀ a b, Spl hs a b → endV hs = a + b → a ≤ b → ∃ a b, Spl hs a b ∧ spot 0 a b ≤ endV hs - a := fun a b s e l => by
      refine ⟨a, b, s, ?_⟩
      have := (spot_spec (lo := 0) (a := a) (s.pos hp).2).2.2 b (Int.dvd_refl b) (by omega)
      omega
    by_cases l : a ≤ b
    · exact key a b s e l
    · exact key b a s.swap (by omega) (by omega)
theorem mix_beyond {hs : List Int} (hp : PosL hs) : mixB hs 0 (endV hs + 1) = true := by
  obtain ⟨e0, e1, e2, e3⟩ := endV_spec hp
  have hm := mix_at hp
  cases c : endIn hs with
  | false =>
    rw [c] at hm
    rcases mixB_iff.mp hm with h | h | ⟨a, b, h1, h2⟩
    · exact mixB_iff.mpr (.inl (by omega))
    · exact mixB_iff.mpr (.inr (.inl (by omega)))
    · exact mixB_iff.mpr (.inr (.inr ⟨a, b, h1, by omega⟩))
  | true =>
    have c := endIn_iff.mp c
    refine mixB_iff.mpr (.inr (.inl ?_))
    rw [Int.zero_ediv, Int.zero_add, Int.one_mul]
    rcases e3 with z | ⟨a, b, s, z⟩
    · omega
    · have := c a b s; omega
/-- below the end, two unlike speeds are told apart -/
theorem told_apart {hs : List Int} (hn : hs ≠ []) (hp : PosL hs) {x y B : Int} (hB : 0 < B) (hx : 0 ≤ x) (hy : 0 ≤ y) (hx1 : x < endV hs * B) (hy1 : y < endV hs * B) (h : ∀ h ∈ hs, (x - y) % (2 * h * B) = 0 ∨ (x + y) % (2 * h * B) = 0) : x = y := by
  obtain ⟨e0, e1, e2, e3⟩ := endV_spec hp
  have hL := lcmL_pos hp
  have dv : ∀ {ms : List Int} {m : Int}, PosL ms → (∀ h ∈ ms, m % (2 * h * B) = 0) → ms ≠ [] → ∃ k, m = 2 * lcmL ms * B * k := fun {ms m} hm hd hne => by
    obtain ⟨h0, hh0⟩ := List.exists_mem_of_ne_nil ms hne
    have d2 : 2 * B ∣ m := by
      refine Int.dvd_trans ?_ (Int.dvd_of_emod_eq_zero (hd h0 hh0))
      rw [show 2 * h0 * B = 2 * B * h0 by rw [Int.mul_right_comm]]
      exact Int.dvd_mul_right ..
    obtain ⟨c, rfl⟩ := d2
    have d3 : lcmL ms ∣ c := by
      rw [lcmL_dvd hm]
      intro n hn
      have := Int.dvd_of_emod_eq_zero (hd n hn)
      rw [Int.mul_right_comm] at this
      exact Int.dvd_of_mul_dvd_mul_left (by omega) this
    obtain ⟨k, rfl⟩ := d3
    exact ⟨k, by rw [Int.mul_right_comm 2 (lcmL ms) B, Int.mul_assoc (2 * B)]⟩
  have big : ∀ {m c k : Int}, m = c * k → 0 < c → m ≠ 0 → c ≤ m ∨ c ≤ -m := fun {m c k} e h1 h2 => by
    have k0 : k ≠ 0 := fun z => h2 (by rw [e, z, Int.mul_zero])
    rcases Int.lt_or_gt_of_ne k0 with z | z
    · right
      have := Int.mul_le_mul_of_nonneg_left (show 1 ≤ -k by omega) (show 0 ≤ c by omega)
      rw [Int.mul_neg, Int.mul_one] at this
      omega
    · left
      have := Int.mul_le_mul_of_nonneg_left (show 1 ≤ k by omega) (show 0 ≤ c by omega)
      rw [Int.mul_one] at this
      omega
  have eL : endV hs * B ≤ lcmL hs * B := Int.mul_le_mul_of_nonneg_right e1 (by omega)
  have pL : 0 < lcmL hs * B := Int.mul_pos hL hB
  have a2 : ∀ z : Int, 2 * z * B = 2 * (z * B) := fun z => Int.mul_assoc ..
  by_cases hxy : x = y
  · exact hxy
  exfalso
  rcases spl_of hp _ _ h with c | c | ⟨m, h1, h2, h3, h4, h5⟩
  · obtain ⟨k, hk⟩ := dv hp c hn
    have := big hk (by rw [a2]; omega) (by omega)
    rw [a2] at this
    omega
  · obtain ⟨k, hk⟩ := dv hp c hn
    have := big hk (by rw [a2]; omega) (by omega)
    rw [a2] at this
    omega
  · obtain ⟨k, hk⟩ := dv (sel_pos hp) h4 h2
    obtain ⟨l, hl⟩ := dv (sel_pos hp) h5 h3
    have p1 := lcmL_pos (sel_pos (m := m) hp)
    have p2 := lcmL_pos (sel_pos (m := nots m) hp)
    have q1 := Int.mul_pos p1 hB
    have q2 := Int.mul_pos p2 hB
    have b1 := big hk (by rw [a2]; omega) (by omega)
    have b2 := big hl (by rw [a2]; omega) (by omega)
    rw [a2] at b1 b2
    have e4 := Int.mul_le_mul_of_nonneg_right (e2 _ _ ⟨m, h1, h2, h3, rfl, rfl⟩) (show 0 ≤ B by omega)
    rw [Int.add_mul] at e4
    omega
theorem end_more {hs : List Int} (hp : PosL hs) {h : Int} (h0 : 0 < h) : endV hs ≤ endV (hs ++ [h]) := by
  have hq : PosL (hs ++ [h]) := fun n z => by
    rcases List.mem_append.mp z with z | z
    · exact hp n z
    · rw [List.mem_singleton.mp z]; exact h0
  obtain ⟨e0, e1, e2, e3⟩ := endV_spec hp
  obtain ⟨_, _, _, f3⟩ := endV_spec hq
  rcases f3 with z | ⟨a, b, s, z⟩
  · have := lcmL_le hp hq fun n q => List.mem_append_left _ q
    omega
  · rcases s.snoc hp h0 with y | ⟨a', b', s', l1, l2⟩
    · omega
    · have := e2 _ _ s'
      omega
end Px

set_option Elab.async false
set_option linter.all false
set_option maxRecDepth 100000
namespace Px
open PySem PySem.Spec PyProof.Rows L2
/-! # halves, stretches as they are drawn -/
def sp__law_any_halves (C : Cl) : PSp := fun ds M q _ => ar1 ds fun d => asDraw d M (∀ hs, HsOk hs → q (.lst (hs.map .int)) M)
def rd__law_any_halves (C : Cl) : PTS := (dSeq (dParL2 1 2 (dCall sp_pick [] (dCons (dVar 0) (dCons (dL (dLst (dCons (dC (.int 1)) (dCons (dC (.int 6)) (dCons (dC (.int 12)) (dCons (dC (.int 30)) dNil)))))) dNil))))
    (dSeq (dFor (iR1 (dOp fAdd (dC (.int 1)) (dCall sp_take [] (dCons (dVar 0) (dCons (dC (.int 6)) dNil))))) (gNm 3) (dApp 2 (dOp fMul (dVar 1) (dOp fAdd (dC (.int 1)) (dCall sp_take [] (dCons (dVar 0) (dCons (dCall sp_pick [] (dCons (dVar 0) (dCons (dL (dLst (dCons (dC (.int 5)) (dCons (dC (.int 33)) (dCons (dOp fDiv (dC (.int 1000)) (dVar 1)) dNil))))) dNil))) dNil)))))))
    (dFrz 2 (dRet (dL (dComp [4] (iA (dVar 2)) (gNm 4) dYes (dOp fMin2 (dVar 4) (dC (.int 1000)))))))))
theorem min_map (l : List Int) : (l.map D.int).map (fun d => match d with | .int i => D.int (if (1000 : Int) < i then 1000 else i) | d => d) = (l.map fun i => if (1000 : Int) < i then 1000 else i).map .int := by
  rw [List.map_map, List.map_map]; rfl
theorem sh__law_any_halves (C : Cl) : Shows (sp__law_any_halves C) 5 (rd__law_any_halves C) := by
  intro ds M q e h
  obtain ⟨d, rfl, h⟩ := ar1_of h
  obtain ⟨a, rfl, hm, hq⟩ := asDraw_of h
  refine ⟨by simp, hm, ⟨by decide, by decide⟩, fun x hx => ?_⟩
  obtain ⟨base, rfl, b1, b2⟩ : ∃ n : Int, x = .int n ∧ 1 ≤ n ∧ n ≤ 30 := by
    simp only [List.mem_cons, List.not_mem_nil, or_false] at hx
    rcases hx with rfl | rfl | rfl | rfl <;> exact ⟨_, rfl, by decide, by decide⟩
  refine ⟨hm, ⟨by decide, by decide⟩, fun k k0 k1 => ?_⟩
  refine ⟨by omega, by omega, ?_⟩
  have hlen : (rngD 0 (1 + k).toNat).length = (1 + k).toNat := by unfold rngD; rw [List.length_map, List.length_range]
  haveI : SzB 10 base := SzB.of (by omega) (by omega)
  refine forR_ix (fun j ρ M' => M' = M ∧ ∃ (l : List Int) (x3 : Option Sv), ρ = [some (.val (.raw (.ref a))), some (.val (.int base)), some (.own (l.map .int)), x3, none] ∧ l.length = j ∧ ∀ n ∈ l, 1 ≤ n) _ 0 ?_ ?_ _ _ ⟨rfl, [], none, rfl, rfl, fun _ z => nomatch z⟩
  · rintro i d hd F hF ρ M' ⟨rfl, l, x3, rfl, hl, hp⟩
    have hi : i < (rngD 0 (1 + k).toNat).length := (List.getElem?_eq_some_iff.mp hd).1
    rw [hlen] at hi
    refine ⟨trivial, (SzB.divX (by omega) inferInstance), by simp, hm, ⟨by simp, by simp⟩, fun x hx => ?_⟩
    have q1 : 1000 / base ≤ 1000 := Int.ediv_le_self _ (by decide)
    have q2 : 1 ≤ 1000 / base := (Int.le_ediv_iff_mul_le (by omega)).mpr (by omega)
    obtain ⟨m, rfl, m1, m2⟩ : ∃ n : Int, x = .int n ∧ 1 ≤ n ∧ n ≤ 1000 := by
      simp only [List.mem_cons, List.not_mem_nil, or_false] at hx
      rcases hx with rfl | rfl | rfl <;> exact ⟨_, rfl, by omega, by omega⟩
    haveI : SzB 10 m := SzB.of (by omega) (by omega)
    refine ⟨hm, ⟨by omega, SzB.log (m := 10) inferInstance⟩, fun t t0 t1 => ?_⟩
    haveI : SzB 10 t := SzB.of (by omega) (by omega)
    have pm : 1 ≤ base * (1 + t) := Int.mul_pos (by omega) (by omega)
    refine ⟨(SzB.mulX inferInstance inferInstance), ?_⟩
    dsimp only [dSeq, dInN, dPutN, dGetN, dNewN, dCallL, dCallLK, dRetL, dRetOwn, dNext, dSet, dSetO, dRet, dRetN, dDrop, dIfS, dFor, dPar, dPar3, dParL2, dParL3, dAsg, dFrz, dIf, dTst, dOp, dVar, dOwn, dC, dB1, dG1, dL, dLst, dCons, dNil, dTup, dCall, dCallK, dAnd, dOr, dNot, dAndV, dOrV, dNotV, dNeg, dChain, dNever, dNeverS, dRaise, dYes, gNm, gsCons, gsNil, gTp, gt, st, fAdd, fSub, fMul, fDiv, fMod, fPow, fShl, fShr, fCmp, fEq, fNe, fEqS, fNeS, fIs, fIsNot, fLen, fMin, fMax, fMin2, fMax2, fAll, fAny, fAbs, fTup, fRepr, fIx, atD, isB, ls2, ls3, startR, ar1, ar2, ar3, ar4, asI, asT, asL, asDraw, sp_take, sp_pick, sp_begin, List.map, List.append, List.replicate, List.length, List.cons_append, List.nil_append, Nat.sub_self, Nat.reduceSub, Nat.reduceAdd, dApp, isOwn, appR, dSl, dPt, dNo, slR, asIn, List.map_cons, List.map_nil]
    refine ⟨by rw [List.length_map]; omega, hF _ _ ⟨rfl, l ++ [base * (1 + t)], some (.val d), ?_, by simp; omega, ?_⟩⟩
    · rw [List.map_append]; rfl
    · intro n hn
      rcases List.mem_append.mp hn with z | z
      · exact hp n z
      · rw [List.mem_singleton.mp z]; exact pm
  · rintro ρ M' ⟨rfl, l, x3, rfl, hl, hp⟩
    rw [hlen] at hl
    refine ⟨rfl, ?_⟩
    refine compR_map (fun d => match d with | .int i => D.int (if (1000 : Int) < i then 1000 else i) | d => d) _ (fun x hx kt kf k => ?_) (by rw [List.length_map]; omega) ?_
    · obtain ⟨n, hn, rfl⟩ := List.mem_map.mp hx
      exact k
    · rw [min_map]
      refine ⟨M', MLe.refl _, hq _ ⟨?_, by rw [List.length_map]; omega, ?_⟩⟩
      · intro z
        have : l = [] := List.map_eq_nil_iff.mp z
        subst this
        simp at hl; omega
      · intro n hn
        obtain ⟨i, hi, rfl⟩ := List.mem_map.mp hn
        have := hp i hi
        split <;> omega
def sp__law_stretch (C : Cl) : PSp := fun ds M q _ => ar2 ds fun d x => asDraw d M (∃ hs, isSeq x hs ∧ HsOk hs ∧ ∀ lo hi : Int, 0 ≤ lo → lo ≤ hi → hi ≤ 10 ^ 25 → q (.tup [.int lo, .int hi]) M)
def rd__law_stretch (C : Cl) : PTS := (dSeq (dPar 2 3 (dCons (dCall (sp__law_lcm C) [] (dCons (dVar 1) dNil)) (dCons (dCall (sp__law_sides C) [] (dCons (dVar 1) dNil)) dNil)))
    (dSeq (dIfS (dOr (dTst (dOp fEq (dVar 3) (dL (dLst dNil)))) (dTst (dOp fEq (dCall sp_take [] (dCons (dVar 0) (dCons (dC (.int 3)) dNil))) (dC (.int 0))))) (dSeq (dSet 4 (dCall sp_take [] (dCons (dVar 0) (dCons (dCall sp_pick [] (dCons (dVar 0) (dCons (dL (dLst (dCons (dVar 2) (dCons (dOp fPow (dC (.int 10)) (dC (.int 12))) dNil)))) dNil))) dNil))))
    (dRet (dTup (dCons (dVar 4) (dCons (dOp fAdd (dVar 4) (dCall sp_take [] (dCons (dVar 0) (dCons (dCall sp_pick [] (dCons (dVar 0) (dCons (dL (dLst (dCons (dOp fAdd (dOp fDiv (dVar 2) (dC (.int 3))) (dC (.int 2))) (dCons (dOp fAdd (dOp fMul (dC (.int 2)) (dVar 2)) (dC (.int 2))) dNil)))) dNil))) dNil)))) dNil))))) dNext)
    (dSeq (dAsg (dCall sp_pick [] (dCons (dVar 0) (dCons (dVar 3) dNil))) (gTp 2 (gsCons (gNm 5) (gsCons (gNm 6) gsNil))))
    (dSeq (dSet 7 (dOp fMul (dVar 6) (dOp fAdd (dC (.int 1)) (dCall sp_take [] (dCons (dVar 0) (dCons (dCall sp_pick [] (dCons (dVar 0) (dCons (dL (dLst (dCons (dC (.int 3)) (dCons (dC (.int 40)) dNil)))) dNil))) dNil))))))
    (dSeq (dSet 4 (dOp fMax2 (dC (.int 0)) (dOp fAdd (dOp fSub (dOp fSub (dVar 7) (dVar 5)) (dC (.int 1))) (dCall sp_take [] (dCons (dVar 0) (dCons (dC (.int 3)) dNil))))))
    (dRet (dTup (dCons (dVar 4) (dCons (dOp fMax2 (dVar 4) (dOp fAdd (dOp fSub (dOp fAdd (dVar 7) (dVar 5)) (dC (.int 1))) (dCall sp_take [] (dCons (dVar 0) (dCons (dC (.int 3)) dNil))))) dNil)))))))))
theorem okD_prs (ps : List (Int × Int)) : okD 50 (.lst (ps.map fun p => .tup [.int p.1, .int p.2])) = true := by
  show (ps.map _).all (okD 49) = true
  rw [List.all_map, List.all_eq_true]
  intro p _; rfl
theorem eqD_prs (ps : List (Int × Int)) : eqD (.lst (ps.map fun p => .tup [.int p.1, .int p.2])) (.lst []) = ps.isEmpty := by cases ps <;> rfl
theorem sh__law_stretch (C : Cl) : Shows (sp__law_stretch C) 8 (rd__law_stretch C) := by
  intro ds M q e h
  obtain ⟨d, x, rfl, h⟩ := ar2_of h
  obtain ⟨a, rfl, hm, hs, hd, hh, hq⟩ := asDraw_of h
  have hL := hh.sm.lcm
  refine ⟨hs, hd, hh.sm, fun d1 h1 => ⟨hs, hd, hh.sm, fun d2 h2 => ?_⟩⟩
  subst h1 h2
  have sp := fun p => sidP_sm hh.sm (p := p)
  have sl := sidP_len hh.sm
  generalize hW : lcmL hs = W at *
  haveI : SzB 60 W := SzB.of (by omega) (by omega)
  refine ⟨by simp, by rw [okD_prs]; rfl, ?_⟩
  rw [eqD_prs]
  have fst : ∀ (P : PEnds) (w : PWi), P.rt = (fun d M' => ∃ M2, MLe M2 M' ∧ q d M2) → (dSeq (dSet 4 (dCall sp_take [] (dCons (dVar 0) (dCons (dCall sp_pick [] (dCons (dVar 0) (dCons (dL (dLst (dCons (dVar 2) (dCons (dOp fPow (dC (.int 10)) (dC (.int 12))) dNil)))) dNil))) dNil))))
    (dRet (dTup (dCons (dVar 4) (dCons (dOp fAdd (dVar 4) (dCall sp_take [] (dCons (dVar 0) (dCons (dCall sp_pick [] (dCons (dVar 0) (dCons (dL (dLst (dCons (dOp fAdd (dOp fDiv (dVar 2) (dC (.int 3))) (dC (.int 2))) (dCons (dOp fAdd (dOp fMul (dC (.int 2)) (dVar 2)) (dC (.int 2))) dNil)))) dNil))) dNil)))) dNil))))) w P
      [some (.val (.raw (.ref a))), some (.val x), some (.val (.int W)), some (.val (.lst ((sidP hs).map fun p => .tup [.int p.1, .int p.2]))), none, none, none, none] M := by
    intro P w hP
    refine ⟨⟨by decide, by decide, by decide⟩, by simp, hm, ⟨by simp, by simp⟩, fun y hy => ?_⟩
    obtain ⟨m, rfl, m1, m2⟩ : ∃ n : Int, y = .int n ∧ 1 ≤ n ∧ n ≤ 10 ^ 18 := by
      simp only [List.mem_cons, List.not_mem_nil, or_false] at hy
      rcases hy with rfl | rfl
      · exact ⟨_, rfl, by omega, by omega⟩
      · exact ⟨_, rfl, by decide, by decide⟩
    haveI : SzB 60 m := SzB.of (by omega) (by omega)
    refine ⟨hm, ⟨by omega, SzB.log (m := 60) inferInstance⟩, fun lo l0 l1 => ?_⟩
    refine ⟨(SzB.divX (by omega) inferInstance), (SzB.mulX inferInstance inferInstance), by simp, hm, ⟨by simp, by simp⟩, fun y hy => ?_⟩
    obtain ⟨m', rfl, n1, n2⟩ : ∃ n : Int, y = .int n ∧ 1 ≤ n ∧ n ≤ 10 ^ 19 := by
      simp only [List.mem_cons, List.not_mem_nil, or_false] at hy
      rcases hy with rfl | rfl
      · exact ⟨_, rfl, by omega, by omega⟩
      · exact ⟨_, rfl, by omega, by omega⟩
    haveI : SzB 65 m' := SzB.of (by omega) (by omega)
    refine ⟨hm, ⟨by omega, SzB.log (m := 65) inferInstance⟩, fun t t0 t1 => ?_⟩
    refine ⟨by simp, ?_⟩
    show P.rt _ M
    rw [hP]
    exact ⟨M, MLe.refl _, hq lo (lo + t) l0 (by omega) (by omega)⟩
  have tk3 : (0 : Int) < 3 ∧ (3 : Int).natAbs.log2 < 9000 := ⟨by decide, by decide⟩
  cases c : (sidP hs).isEmpty with
  | true => exact fst _ _ rfl
  | false =>
    have hne : sidP hs ≠ [] := by simpa using c
    have hpos : 0 < (sidP hs).length := List.length_pos_iff.mpr hne
    refine ⟨hm, tk3, fun k k0 k1 => ⟨rfl, ?_⟩⟩
    rw [eqI]
    by_cases ck : k = 0
    · exact itT (decide_eq_true ck) (fst _ _ rfl)
    refine itF (decide_eq_false ck) ?_
    refine ⟨hm, ⟨by rw [List.length_map]; exact hpos, by rw [List.length_map]; omega⟩, fun y hy => ?_⟩
    obtain ⟨p, hp, rfl⟩ := mem_prs hy
    obtain ⟨p1, p2, p3, p4⟩ := sp p hp
    haveI : SzB 60 p.1 := SzB.of (by omega) (by omega)
    haveI : SzB 60 p.2 := SzB.of (by omega) (by omega)
    refine ⟨rfl, by simp, hm, ⟨by simp, by simp⟩, fun z hz => ?_⟩
    obtain ⟨m, rfl, m1, m2⟩ : ∃ n : Int, z = .int n ∧ 1 ≤ n ∧ n ≤ 40 := by
      simp only [List.mem_cons, List.not_mem_nil, or_false] at hz
      rcases hz with rfl | rfl
      · exact ⟨_, rfl, by decide, by decide⟩
      · exact ⟨_, rfl, by decide, by decide⟩
    haveI : SzB 6 m := SzB.of (by omega) (by omega)
    refine ⟨hm, ⟨by omega, SzB.log (m := 6) inferInstance⟩, fun t t0 t1 => ?_⟩
    haveI : SzB 6 t := SzB.of (by omega) (by omega)
    have r1 : p.2 * (1 + t) ≤ 10 ^ 18 * 40 := Int.mul_le_mul p4 (by omega) (by omega) (by decide)
    have r2 : 0 < p.2 * (1 + t) := Int.mul_pos p2 (by omega)
    refine ⟨(SzB.mulX inferInstance inferInstance), hm, tk3, fun u u0 u1 => ⟨hm, tk3, fun v v0 v1 => ?_⟩⟩
    refine ⟨by simp, M, MLe.refl _, hq _ _ ?_ ?_ ?_⟩
    · split <;> omega
    · split <;> split <;> omega
    · split <;> split <;> omega
def sp__law_stretch_right (C : Cl) : PSp := fun ds M q _ => ar2 ds fun d x => asDraw d M (∃ hs, isSeq x hs ∧ HsOk hs ∧ q (.bl true) M)
def rd__law_stretch_right (C : Cl) : PTS := (dSeq (dAsg (dCall (sp__law_stretch C) [] (dCons (dVar 0) (dCons (dVar 1) dNil))) (gTp 2 (gsCons (gNm 2) (gsCons (gNm 3) gsNil))))
    (dSeq (dSet 4 (dCall (sp_alike_pair C) [] (dCons (dVar 1) (dCons (dVar 2) (dCons (dVar 3) dNil)))))
    (dSeq (dIfS (dOr (dTst (dOp fIs (dVar 4) (dC .non))) (dNot (dTst (dCall (sp__law_is_mixed C) [] (dCons (dVar 1) (dCons (dVar 2) (dCons (dVar 3) dNil))))))) (dRet (dAndV (dOp fIs (dVar 4) (dC .non)) (dNotV (dCall (sp__law_is_mixed C) [] (dCons (dVar 1) (dCons (dVar 2) (dCons (dVar 3) dNil))))))) dNext)
    (dSeq (dAsg (dVar 4) (gTp 2 (gsCons (gNm 5) (gsCons (gNm 6) gsNil))))
    (dSeq (dIfS (dOr (dTst (dOp fLt (dOp fIx (dVar 5) (dC (.int 0))) (dOp fMul (dVar 2) (dOp fIx (dVar 5) (dC (.int 1)))))) (dOr (dTst (dOp fGt (dOp fIx (dVar 6) (dC (.int 0))) (dOp fMul (dVar 3) (dOp fIx (dVar 6) (dC (.int 1)))))) (dTst (dOp fGe (dOp fMul (dOp fIx (dVar 5) (dC (.int 0))) (dOp fIx (dVar 6) (dC (.int 1)))) (dOp fMul (dOp fIx (dVar 6) (dC (.int 0))) (dOp fIx (dVar 5) (dC (.int 1)))))))) (dRet (dC (.bl false))) dNext)
    (dRet (dCall (sp__law_alike C) [] (dCons (dVar 1) (dCons (dVar 4) dNil)))))))))
theorem sh__law_stretch_right (C : Cl) : Shows (sp__law_stretch_right C) 7 (rd__law_stretch_right C) := by
  intro ds M q e h
  obtain ⟨d, x, rfl, h⟩ := ar2_of h
  obtain ⟨a, rfl, hm, hs, hd, hh, hq⟩ := asDraw_of h
  refine ⟨hm, hs, hd, hh, fun lo hi h0 h1 h2 => ?_⟩
  have n1 : NmOk lo := ⟨by omega, by omega⟩
  have n2 : NmOk hi := ⟨by omega, by omega⟩
  haveI := n1.sz
  haveI := n2.sz
  refine ⟨rfl, hs, hd, hh, ⟨h0, h1, by omega⟩, fun d1 hd1 => ?_⟩
  cases c : pairV hs lo hi with
  | none =>
    rw [c] at hd1
    subst hd1
    have hx : mixB hs lo hi = false := by unfold mixB; rw [c]; rfl
    refine ⟨rfl, ⟨rfl, hs, hd, hh.sm, ⟨n1, n2⟩, fun d2 hd2 => ?_⟩⟩
    subst hd2
    rw [hx]
    exact ⟨M, MLe.refl _, hq⟩
  | some p =>
    obtain ⟨x1, y1⟩ := p
    obtain ⟨r1, r2, r3, r4⟩ := pairV_right hh.sm.pos c
    rw [c] at hd1
    subst hd1
    have hx : mixB hs lo hi = true := by unfold mixB; rw [c]; rfl
    refine ⟨rfl, hs, hd, hh.sm, ⟨n1, n2⟩, fun d2 hd2 => ?_⟩
    subst hd2
    rw [hx]
    haveI : SzB 140 x1 := SzB.of (by omega) (by omega)
    haveI : SzB 140 y1 := SzB.of (by omega) (by omega)
    refine ⟨rfl, _, rfl, _, rfl, (SzB.mulX inferInstance inferInstance), ?_⟩
    refine itF (decide_eq_false (by omega)) ⟨_, rfl, _, rfl, (SzB.mulX inferInstance inferInstance), itF (decide_eq_false (by omega)) ⟨_, rfl, _, rfl, (SzB.mulX inferInstance inferInstance), _, rfl, _, rfl, (SzB.mulX inferInstance inferInstance), itF (decide_eq_false (by omega)) ?_⟩⟩
    refine ⟨hs, x1, 1, y1, 1, hd, rfl, hh.sm, ⟨by omega, by omega, by decide, by decide⟩, ⟨by omega, by omega, by decide, by decide⟩, fun d2 hd2 => ?_⟩
    subst hd2
    rw [(alike_int hh.sm.pos).mpr r4]
    exact ⟨M, MLe.refl _, hq⟩
end Px

set_option Elab.async false
set_option linter.all false
set_option maxRecDepth 100000
namespace Px
open PySem PySem.Spec PyProof.Rows L2
/-! # choices of halves -/
theorem lexL_anti : ∀ {a b : List Int}, lexL a b = false → lexL b a = false → a = b
  | [], [], _, _ => rfl
  | [], _ :: _, h, _ => by cases h
  | _ :: _, [], _, h => by cases h
  | x :: r, y :: s, h, k => by
    unfold lexL at h k
    by_cases c : x = y
    · subst c
      rw [if_pos rfl] at h k
      rw [lexL_anti h k]
    · rw [if_neg c] at h
      rw [if_neg (fun z => c z.symm)] at k
      have := of_decide_eq_false h
      have := of_decide_eq_false k
      omega
theorem srt_uniq {l m : List (List Int)} (h1 : l.Pairwise (fun x y => lexL y x = false)) (h2 : m.Pairwise (fun x y => lexL y x = false)) (p : l.Perm m) : l = m :=
  List.Perm.eq_of_pairwise (le := fun x y => lexL y x = false) (fun a b _ _ h k => lexL_anti k h) h1 h2 p
def insL (x : List Int) : List (List Int) → List (List Int)
  | [] => [x]
  | y :: r => if lexL y x then y :: insL x r else x :: y :: r
def isort : List (List Int) → List (List Int)
  | [] => []
  | x :: r => insL x (isort r)
def idxs (x n : Nat) : List Int := ((List.range n).filter fun (i : Nat) => x / 2 ^ i % 2 == 1).map fun (i : Nat) => (i : Int)
def chN (n : Nat) : List (List Int) := (List.range (2 ^ n - 1)).map fun k => idxs (k + 1) n
def prtN (n : Nat) : List (List Int) := (List.range n).foldl (fun (ps : List (List Int)) (i : Nat) => ps ++ ps.map (· ++ [(i : Int)])) [[]]
def srtN (n : Nat) : List (List Int) := isort (chN n)
def sortB : List (List Int) → Bool
  | [] => true
  | x :: r => r.all (fun y => !lexL y x) && sortB r
theorem sortB_pw : ∀ {l : List (List Int)}, sortB l = true → l.Pairwise (fun x y => lexL y x = false)
  | [], _ => .nil
  | x :: r, h => by
    unfold sortB at h
    rw [Bool.and_eq_true, List.all_eq_true] at h
    exact .cons (fun y hy => by have := h.1 y hy; simpa using this) (sortB_pw h.2)
theorem ch_facts : ∀ n, n ≤ 6 → (sortB ([] :: srtN n) = true ∧ (srtN n).isPerm (chN n) = true ∧ ([] :: srtN n).isPerm (prtN n) = true ∧ ((chN n).all fun c => !c.isEmpty && decide (c.length ≤ 6) && c.all fun i => decide (0 ≤ i) && decide (i < n)) = true) ∧ (srtN n).length ≤ 63 := by
  intro n hn
  have : n = 0 ∨ n = 1 ∨ n = 2 ∨ n = 3 ∨ n = 4 ∨ n = 5 ∨ n = 6 := by omega
  rcases this with rfl | rfl | rfl | rfl | rfl | rfl | rfl <;> decide +kernel
structure ChOk (n : Nat) : Prop where
  s1 : (srtN n).Pairwise (fun x y => lexL y x = false)
  s2 : ([] :: srtN n).Pairwise (fun x y => lexL y x = false)
  p1 : (srtN n).Perm (chN n)
  p2 : ([] :: srtN n).Perm (prtN n)
  el : ∀ c ∈ chN n, c ≠ [] ∧ c.length ≤ 6 ∧ ∀ i ∈ c, 0 ≤ i ∧ i < n
  el2 : ∀ c ∈ srtN n, c ≠ [] ∧ c.length ≤ 6 ∧ ∀ i ∈ c, 0 ≤ i ∧ i < n
  len : (srtN n).length ≤ 63
theorem chOk {n : Nat} (h : n ≤ 6) : ChOk n := by
  obtain ⟨⟨h1, h2, h3, h4⟩, h5⟩ := ch_facts n h
  have p := List.isPerm_iff.mp h2
  have el : ∀ c ∈ chN n, c ≠ [] ∧ c.length ≤ 6 ∧ ∀ i ∈ c, 0 ≤ i ∧ i < n := fun c hc => by
    have := List.all_eq_true.mp h4 c hc
    simp only [Bool.and_eq_true, Bool.not_eq_true', List.isEmpty_eq_false_iff, decide_eq_true_eq, List.all_eq_true] at this
    exact ⟨this.1.1, this.1.2, this.2⟩
  exact ⟨(sortB_pw h1).tail, sortB_pw h1, p, List.isPerm_iff.mp h3, el, fun c hc => el c (p.mem_iff.mp hc), h5⟩
def sp_all_choices (C : Cl) : PSp := fun ds M q _ => ar1 ds fun d => ∃ n : Nat, d = .int n ∧ n ≤ 6 ∧ q (.lst ((srtN n).map tupI)) M
def rd_all_choices (C : Cl) : PTS := (dSeq (dSetO 1 (dLst dNil))
    (dSeq (dFor (iR2 (dC (.int 1)) (dOp fShl (dC (.int 1)) (dVar 0))) (gNm 2) (dApp 1 (dB1 fTup (dL (dComp [3] (iR1 (dVar 0)) (gNm 3) (dTst (dOp fEq (dOp fMod (dOp fShr (dVar 2) (dVar 3)) (dC (.int 2))) (dC (.int 1)))) (dVar 3))))))
    (dRet (dL (dG1 fSorted (dOwn 1))))))
theorem rng_filter (x n : Nat) : (rngD 0 n).filter (fun d => match d with | .int i => decide ((x : Int) / 2 ^ i.toNat % 2 = 1) | _ => false) = (idxs x n).map .int := by
  unfold rngD idxs
  rw [List.filter_map, List.map_map]
  congr 1
  · funext i
    show D.int (0 + (i : Int)) = .int i
    rw [Int.zero_add]
  · refine List.filter_congr fun i _ => ?_
    show decide ((x : Int) / 2 ^ (0 + (i : Int)).toNat % 2 = 1) = _
    rw [Int.zero_add, div_pow_mod]
    have : x / 2 ^ i % 2 < 2 := Nat.mod_lt _ (by decide)
    generalize x / 2 ^ i % 2 = z at *
    have hz : z = 0 ∨ z = 1 := by omega
    rcases hz with rfl | rfl <;> rfl
theorem sh_all_choices (C : Cl) : Shows (sp_all_choices C) 4 (rd_all_choices C) := by
  intro ds M q e h
  obtain ⟨d, rfl, n, rfl, hn, hq⟩ := ar1_of h
  have p6 : 2 ^ n ≤ 2 ^ 6 := Nat.pow_le_pow_right (by decide) hn
  have p1 : 1 ≤ 2 ^ n := Nat.one_le_two_pow
  have e1 : (1 : Int) * 2 ^ ((n : Nat) : Int).toNat = ((2 ^ n : Nat) : Int) := by
    rw [Int.toNat_natCast, Int.one_mul, Int.natCast_pow]; rfl
  obtain ⟨s1, s2, c1, c2, c3, c4, c5⟩ := chOk hn
  refine ⟨by decide, ⟨by omega, by omega, by decide⟩, ?_⟩
  dsimp only [dSeq, dInN, dPutN, dGetN, dNewN, dCallL, dCallLK, dRetL, dRetOwn, dNext, dSet, dSetO, dRet, dRetN, dDrop, dIfS, dFor, dPar, dPar3, dParL2, dParL3, dAsg, dFrz, dIf, dTst, dOp, dVar, dOwn, dC, dB1, dG1, dL, dLst, dCons, dNil, dTup, dCall, dCallK, dAnd, dOr, dNot, dAndV, dOrV, dNotV, dNeg, dChain, dNever, dNeverS, dRaise, dYes, gNm, gsCons, gsNil, gTp, gt, st, fAdd, fSub, fMul, fDiv, fMod, fPow, fShl, fShr, fCmp, fEq, fNe, fEqS, fNeS, fIs, fIsNot, fLen, fMin, fMax, fMin2, fMax2, fAll, fAny, fAbs, fTup, fRepr, fIx, atD, isB, ls2, ls3, startR, ar1, ar2, ar3, ar4, asI, asT, asL, asDraw, sp_take, sp_pick, sp_begin, List.map, List.append, List.replicate, List.length, List.cons_append, List.nil_append, Nat.sub_self, Nat.reduceSub, Nat.reduceAdd, dApp, isOwn, appR, dSl, dPt, dNo, slR, asIn, List.map_cons, List.map_nil]
  rw [e1]
  refine ⟨by decide, by decide, by omega, by omega, ?_⟩
  rw [show (((2 ^ n : Nat) : Int) - 1).toNat = 2 ^ n - 1 by omega]
  refine forR_ix (fun k ρ M' => M' = M ∧ ∃ x2 : Option Sv, ρ = [some (.val (.int n)), some (.own (((chN n).take k).map tupI)), x2, none]) _ 0 ?_ ?_ _ _ ⟨rfl, none, rfl⟩
  · rintro k x hx F hF ρ M' ⟨rfl, x2, rfl⟩
    unfold rngD at hx
    rw [List.getElem?_map] at hx
    have hk : k < 2 ^ n - 1 := by
      by_cases c : k < 2 ^ n - 1
      · exact c
      · rw [List.getElem?_eq_none (by rw [List.length_range]; omega)] at hx; cases hx
    rw [List.getElem?_range hk] at hx
    cases hx
    have ex : (1 : Int) + (k : Int) = ((k + 1 : Nat) : Int) := by omega
    show gNm 2 (.int (1 + (k : Int))) _ _
    rw [ex]
    refine ⟨trivial, rfl, by omega, by omega, ?_⟩
    refine compR_flt (fun d => match d with | .int i => decide (((k + 1 : Nat) : Int) / 2 ^ i.toNat % 2 = 1) | _ => false) _ (fun y hy kt kf kk => ?_) (by unfold rngD; rw [List.length_map, List.length_range]; omega) ?_
    · obtain ⟨i, rfl, i0, i1⟩ := rngD_mem hy
      exact ⟨i0, by decide, rfl, kk⟩
    · rw [Int.toNat_natCast, rng_filter]
      have hsp : (chN n)[k]? = some (idxs (k + 1) n) := by
        unfold chN
        rw [List.getElem?_map, List.getElem?_range hk]; rfl
      have hE : ((chN n).take (0 + k)).map tupI ++ [tupI (idxs (k + 1) n)] = ((chN n).take (0 + k + 1)).map tupI := by
        rw [Nat.zero_add, List.take_add_one, hsp]
        simp
      exact ⟨by rw [List.length_map, List.length_take]; omega, hF _ _ ⟨rfl, some (.val (.int ((k + 1 : Nat) : Int))), congrArg (fun z => [_, some (Sv.own z), _, _]) hE⟩⟩
  · rintro ρ M' ⟨rfl, x2, rfl⟩
    have e2 : (chN n).take (0 + (rngD 1 (2 ^ n - 1)).length) = chN n := by
      refine List.take_of_length_le ?_
      unfold chN rngD
      rw [List.length_map, List.length_map]; omega
    rw [e2]
    refine ⟨chN n, rfl, .inl fun c hc => (c3 c hc).1, fun mss h1 h2 => ?_⟩
    rw [srt_uniq h1 s1 (h2.trans c1.symm)]
    exact ⟨M', MLe.refl _, hq⟩
/-! ## those within which no other lies -/
def inAll (o c : List Int) : Bool := o.all fun i => decide (i ∈ c)
def lonely (g : List (List Int)) (c : List Int) : Bool := g.all fun o => decide (o = c) || !inAll o c
def leastL (g : List (List Int)) : List (List Int) := g.filter (lonely g)
theorem eqD_ints : ∀ (a b : List Int), PyData.eqvAll (toPyL (a.map .int)) (toPyL (b.map .int)) = decide (a = b)
  | [], [] => rfl
  | [], _ :: _ => rfl
  | _ :: _, [] => rfl
  | x :: r, y :: s => by
    show (decide (x = y) && PyData.eqvAll (toPyL (r.map .int)) (toPyL (s.map .int))) = _
    rw [eqD_ints r s, ← Bool.decide_and]
    exact decide_eq_decide.mpr (by rw [List.cons.injEq])
theorem eqD_tupI (a b : List Int) : eqD (tupI a) (tupI b) = decide (a = b) := eqD_ints a b
theorem eqD_tups (l : List (List Int)) : eqD (.lst (l.map tupI)) (.lst []) = l.isEmpty := by cases l <;> rfl
theorem okD_tups (l : List (List Int)) : okD 50 (.lst (l.map tupI)) = true := by
  show (l.map tupI).all (okD 49) = true
  rw [List.all_map, List.all_eq_true]
  intro x _
  exact okD_ints (k := 48) x
theorem filter_snoc {α : Type} (p : α → Bool) (l : List α) (c : α) : (l ++ [c]).filter p = l.filter p ++ (if p c = true then [c] else []) := by
  rw [List.filter_append, List.filter_cons, List.filter_nil]
def sp_least_ones (C : Cl) : PSp := fun ds M q _ => ar1 ds fun d => ∃ g : List (List Int), d = .lst (g.map tupI) ∧ (g.length ≤ 1000 ∧ ∀ c ∈ g, c.length ≤ 6) ∧ q (.lst ((leastL g).map tupI)) M
def rd_least_ones (C : Cl) : PTS := (dSeq (dSetO 1 (dLst dNil))
    (dSeq (dFor (iA (dVar 0)) (gNm 2) (dSeq (dSet 3 (dL (dComp [4] (iA (dVar 0)) (gNm 4) (dAnd (dTst (dOp fNe (dVar 4) (dVar 2))) (dTst (dB1 fAll (dL (dComp [5] (iA (dVar 4)) (gNm 5) dYes (dOp (fInI false) (dVar 5) (dVar 2))))))) (dVar 4))))
    (dIfS (dTst (dOp fEq (dVar 3) (dL (dLst dNil)))) (dApp 1 (dVar 2)) dNext)))
    (dFrz 1 (dRet (dVar 1)))))
theorem filter_tup (p : List Int → Bool) (f : D → Bool) (hf : ∀ o, f (tupI o) = p o) (g : List (List Int)) : (g.map tupI).filter f = (g.filter p).map tupI := by
  rw [List.filter_map]
  congr 1
  exact List.filter_congr fun o _ => hf o
theorem lonely_is (g : List (List Int)) (c : List Int) : (g.filter fun o => !decide (o = c) && inAll o c).isEmpty = lonely g c := by
  unfold lonely
  induction g with
  | nil => rfl
  | cons o r ih =>
    rw [List.filter_cons, List.all_cons, ← ih]
    cases decide (o = c) <;> cases inAll o c <;> rfl
/-- ints of a tuple of ints -/
def untup : D → List Int
  | .tup l => (intsOf l).getD []
  | _ => []
theorem untup_tupI (c : List Int) : untup (tupI c) = c := by
  show (intsOf (c.map .int)).getD [] = c
  rw [intsOf_map]; rfl
theorem fInI_tup (neg : Bool) (i : Int) (c : List Int) (k : D → Prop) (h : k (.bl (if neg then !decide (i ∈ c) else decide (i ∈ c)))) : fInI neg (.int i) (tupI c) k := by
  show (match D.int i, itemsD (tupI c) with | .int i, some ns => k (.bl (if neg then !decide (i ∈ ns) else decide (i ∈ ns))) | _, _ => False)
  rw [show itemsD (tupI c) = some c from intsOf_map c]
  exact h
theorem sh_least_ones (C : Cl) : Shows (sp_least_ones C) 6 (rd_least_ones C) := by
  intro ds M q e h
  obtain ⟨d, rfl, g, rfl, ⟨hl, hc⟩, hq⟩ := ar1_of h
  refine ⟨by simp, ?_⟩
  refine forR_ind (fun rem ρ M' => M' = M ∧ ∃ (done rest : List (List Int)) (x2 x3 : Option Sv), rem = rest.map tupI ∧ ρ = [some (.val (.lst (g.map tupI))), some (.own ((done.filter (lonely g)).map tupI)), x2, x3, none, none] ∧ g = done ++ rest) ?_ ?_ _ _ _ ⟨rfl, [], g, none, none, rfl, rfl, rfl⟩
  · rintro x r ρ M' ⟨rfl, done, rest, x2, x3, hr, rfl, hg⟩ F hF
    cases rest with
    | nil => cases hr
    | cons c rest =>
      cases hr
      refine ⟨rfl, ?_⟩
      refine compR_flt (fun d => !decide (untup d = c) && inAll (untup d) c) _ (fun y hy kt kf kk => ?_) (by rw [List.length_map]; omega) ?_
      · obtain ⟨o, ho, rfl⟩ := List.mem_map.mp hy
        rw [untup_tupI] at kk
        refine ⟨by rw [okD_it, okD_it]; rfl, ?_⟩
        rw [eqD_tupI]
        cases c1 : decide (o = c) with
        | true =>
          rw [c1] at kk
          exact kk
        | false =>
          rw [c1] at kk
          refine ⟨rfl, ?_⟩
          refine compR_map (fun d => match d with | .int i => .bl (decide (i ∈ c)) | d => d) _ (fun z hz kt kf k => ?_) (by rw [List.length_map]; have := hc o ho; omega) ?_
          · obtain ⟨i, hi, rfl⟩ := List.mem_map.mp hz
            show fInI false (.int i) (tupI c) fun z => kt z M'
            exact fInI_tup false i c _ k
          · rw [List.map_map, show ((fun d => match d with | .int i => D.bl (decide (i ∈ c)) | d => d) ∘ D.int) = D.bl ∘ fun i => decide (i ∈ c) from rfl, ← List.map_map]
            refine fAll_bls ?_
            rw [List.all_map]
            exact kk
      · rw [filter_tup (fun o => !decide (o = c) && inAll o c) _ (fun o => by rw [untup_tupI])]
        refine ⟨by simp, by rw [okD_tups]; rfl, ?_⟩
        rw [eqD_tups, lonely_is]
        cases c1 : lonely g c with
        | true =>
          refine ⟨trivial, ?_⟩
          dsimp only [dSeq, dInN, dPutN, dGetN, dNewN, dCallL, dCallLK, dRetL, dRetOwn, dNext, dSet, dSetO, dRet, dRetN, dDrop, dIfS, dFor, dPar, dPar3, dParL2, dParL3, dAsg, dFrz, dIf, dTst, dOp, dVar, dOwn, dC, dB1, dG1, dL, dLst, dCons, dNil, dTup, dCall, dCallK, dAnd, dOr, dNot, dAndV, dOrV, dNotV, dNeg, dChain, dNever, dNeverS, dRaise, dYes, gNm, gsCons, gsNil, gTp, gt, st, fAdd, fSub, fMul, fDiv, fMod, fPow, fShl, fShr, fCmp, fEq, fNe, fEqS, fNeS, fIs, fIsNot, fLen, fMin, fMax, fMin2, fMax2, fAll, fAny, fAbs, fTup, fRepr, fIx, atD, isB, ls2, ls3, startR, ar1, ar2, ar3, ar4, asI, asT, asL, asDraw, sp_take, sp_pick, sp_begin, List.map, List.append, List.replicate, List.length, List.cons_append, List.nil_append, Nat.sub_self, Nat.reduceSub, Nat.reduceAdd, dApp, isOwn, appR, dSl, dPt, dNo, slR, asIn, List.map_cons, List.map_nil]
          refine ⟨?_, hF _ _ ⟨rfl, done ++ [c], rest, some (.val (tupI c)), some (.val (.lst ((g.filter fun o => !decide (o = c) && inAll o c).map tupI))), rfl, ?_, by rw [hg]; simp⟩⟩
          · rw [List.length_map]
            have : (done.filter (lonely g)).length ≤ done.length := List.length_filter_le ..
            have : g.length = done.length + (rest.length + 1) := by conv => { lhs; rw [hg] }; simp
            omega
          · rw [filter_snoc, c1, if_pos rfl, List.map_append]; rfl
        | false =>
          refine hF _ _ ⟨rfl, done ++ [c], rest, some (.val (tupI c)), some (.val (.lst ((g.filter fun o => !decide (o = c) && inAll o c).map tupI))), rfl, ?_, by rw [hg]; simp⟩
          rw [filter_snoc, c1, if_neg Bool.false_ne_true, List.append_nil]; rfl
  · rintro ρ M' ⟨rfl, done, rest, x2, x3, hr, rfl, hg⟩
    have e0 : rest = [] := by cases rest with | nil => rfl | cons => cases hr
    subst e0
    rw [List.append_nil] at hg
    subst hg
    exact ⟨M', MLe.refl _, hq⟩
/-! ## the choices that reach so far -/
def atH (hs : List Int) (c : List Int) : List Int := c.map fun i => hs.getD i.toNat 0
def goodL (hs : List Int) (hi : Int) : List (List Int) := (srtN hs.length).filter fun c => !mixB (atH hs c) 0 hi
def sp_least_choices (C : Cl) : PSp := fun ds M q _ => ar2 ds fun d b => ∃ hs, isSeq d hs ∧ HsOk hs ∧ asI b fun hi => (1 ≤ hi ∧ hi ≤ 10 ^ 30 - 1) ∧ ∀ d, d = .lst ((leastL (goodL hs hi)).map tupI) → q d M
def rd_least_choices (C : Cl) : PTS := (dSeq (dDrop (dCall (sp_need_halves C) [] (dCons (dVar 0) dNil)))
    (dSeq (dIfS (dNot (dTst (dCall (sp_is_between C) [] (dCons (dVar 1) (dCons (dC (.int 1)) (dCons (dC (.int 999999999999999999999999999999)) dNil)))))) (dRaise (.ref C.BadNumber)) dNext)
    (dSeq (dSet 2 (dCall (sp_all_choices C) [] (dCons (dB1 fLen (dVar 0)) dNil)))
    (dRet (dCall (sp_least_ones C) [] (dCons (dL (dComp [3] (iA (dVar 2)) (gNm 3) (dTst (dOp fIs (dCall (sp_pair_in C) [] (dCons (dL (dComp [4] (iA (dVar 3)) (gNm 4) dYes (dOp fIx (dVar 0) (dVar 4)))) (dCons (dC (.int 0)) (dCons (dVar 1) dNil)))) (dC .non))) (dVar 3))) dNil))))))
theorem fIx_seq {d : D} {hs : List Int} {i : Int} {k : D → Prop} (hd : isSeq d hs) (h0 : 0 ≤ i) (h1 : i < hs.length) (h : k (.int (hs.getD i.toNat 0))) : fIx d (.int i) k := by
  have e : L2.atI (hs.map D.int) i = some (.int (hs.getD i.toNat 0)) := by
    have hi : i.toNat < hs.length := by omega
    have e1 : (hs.map D.int)[i.toNat]? = some (.int (hs.getD i.toNat 0)) := by
      rw [List.getElem?_map, List.getElem?_eq_getElem hi, List.getD_eq_getElem?_getD, List.getElem?_eq_getElem hi]; rfl
    have := atI_nat (xs := hs.map D.int) (j := i.toNat) e1
    rw [Int.toNat_of_nonneg h0] at this
    exact this
  rcases hd with rfl | rfl <;> exact ⟨_, e, h⟩
theorem atH_ok {hs c : List Int} (hh : HsOk hs) (hc : c ≠ [] ∧ c.length ≤ 6 ∧ ∀ i ∈ c, 0 ≤ i ∧ i < hs.length) : HsOk (atH hs c) := by
  refine ⟨fun z => hc.1 (List.map_eq_nil_iff.mp z), by unfold atH; rw [List.length_map]; exact hc.2.1, fun n hn => ?_⟩
  obtain ⟨i, hi, rfl⟩ := List.mem_map.mp hn
  have := hc.2.2 i hi
  have hlt : i.toNat < hs.length := by omega
  rw [List.getD_eq_getElem?_getD, List.getElem?_eq_getElem hlt]
  exact hh.2.2 _ (List.getElem_mem hlt)
/-- the comprehension of the halves of a choice -/
theorem comp_at {te : PTE} {gd : PTG} {ρ : Rho} {M : Mm} {q : List D → Mm → Prop} {hs c : List Int} (hc : c.length ≤ 6) (hb : ∀ i ∈ c, ∀ kt : D → Mm → Prop, kt (.int (hs.getD i.toNat 0)) M → gd (.int i) ρ fun ρ' => te w0 ρ' M kt) (h : q ((atH hs c).map .int) M) :
    compR gd dYes te ρ (c.map .int) [] M q := by
  refine compR_map (fun d => match d with | .int i => D.int (hs.getD i.toNat 0) | d => d) _ (fun x hx kt kf k => ?_) (by rw [List.length_map]; omega) ?_
  · obtain ⟨i, hi, rfl⟩ := List.mem_map.mp hx
    exact hb i hi kt k
  · have e : (c.map D.int).map (fun d => match d with | .int i => D.int (hs.getD i.toNat 0) | d => d) = (atH hs c).map .int := by
      unfold atH
      rw [List.map_map, List.map_map]; rfl
    rw [e]; exact h
theorem mixB_none {hs : List Int} {lo hi : Int} : isN (optP (pairV hs lo hi)) = !mixB hs lo hi := by
  unfold mixB
  cases pairV hs lo hi <;> rfl
theorem sh_least_choices (C : Cl) : Shows (sp_least_choices C) 5 (rd_least_choices C) := by
  intro ds M q e h
  obtain ⟨d, x, rfl, hs, hd, hh, h⟩ := ar2_of h
  obtain ⟨hi, e1, ⟨h1, h2⟩, hq⟩ := asI_of h
  subst e1
  have hq := hq _ rfl
  obtain ⟨s1, s2, c1, c2, c3, c4, c5⟩ := chOk hh.2.1
  refine ⟨hs, hd, hh, rfl, itF (by rw [btw_of h1 (by omega)]; rfl) ?_⟩
  refine len_iR hd ⟨hs.length, rfl, hh.2.1, rfl, ?_⟩
  refine compR_flt (fun d => !mixB (atH hs (untup d)) 0 hi) _ (fun y hy kt kf kk => ?_) (by rw [List.length_map]; omega) ?_
  · obtain ⟨c, hc, rfl⟩ := List.mem_map.mp hy
    rw [untup_tupI] at kk
    have co := c4 c hc
    refine ⟨rfl, ?_⟩
    refine comp_at co.2.1 (fun i hi kt k => fIx_seq hd (co.2.2 i hi).1 (co.2.2 i hi).2 k) ?_
    refine ⟨atH hs c, .inl rfl, atH_ok hh co, ⟨⟨by omega, by omega⟩, ⟨by omega, by omega⟩⟩, fun d1 hd1 => ?_⟩
    subst hd1
    refine ⟨by cases pairV (atH hs c) 0 hi <;> rfl, ?_⟩
    rw [mixB_none]
    exact kk
  · rw [filter_tup (fun c => !mixB (atH hs c) 0 hi) _ (fun o => by rw [untup_tupI])]
    refine ⟨goodL hs hi, rfl, ⟨?_, ?_⟩, M, MLe.refl _, hq⟩
    · have : (goodL hs hi).length ≤ (srtN hs.length).length := List.length_filter_le ..
      omega
    · intro c hc
      exact (c4 c (List.mem_filter.mp hc).1).2.1
def sp__law_choices_right (C : Cl) : PSp := fun ds M q _ => ar2 ds fun d b => ∃ hs, d = .lst (hs.map .int) ∧ HsOk hs ∧ asI b fun hi => (1 ≤ hi ∧ hi ≤ 10 ^ 30 - 1) ∧ q (.bl true) M
def rd__law_choices_right (C : Cl) : PTS := (dSeq (dSet 2 (dL (dLst (dCons (dTup dNil) dNil))))
    (dSeq (dFor (iR1 (dB1 fLen (dVar 0))) (gNm 3) (dSet 2 (dOp fAdd (dVar 2) (dL (dComp [5] (iA (dVar 2)) (gNm 5) dYes (dOp fAdd (dVar 5) (dTup (dCons (dVar 3) dNil))))))))
    (dSeq (dSetO 4 (dLst dNil))
    (dSeq (dFor (iA (dSl (dL (dG1 fSorted (dVar 2))) (dPt (dC (.int 1))) dNo)) (gNm 5) (dIfS (dNot (dTst (dCall (sp__law_is_mixed C) [] (dCons (dL (dComp [3] (iA (dVar 5)) (gNm 3) dYes (dOp fIx (dVar 0) (dVar 3)))) (dCons (dC (.int 0)) (dCons (dVar 1) dNil)))))) (dApp 4 (dVar 5)) dNext))
    (dSeq (dSetO 6 (dLst dNil))
    (dSeq (dFrz 4 (dFor (iA (dVar 4)) (gNm 5) (dFrz 4 (dIfS (dTst (dOp fEq (dL (dComp [7] (iA (dVar 4)) (gNm 7) (dAnd (dTst (dOp fNe (dVar 7) (dVar 5))) (dTst (dOp fEq (dL (dComp [3] (iA (dVar 7)) (gNm 3) (dTst (dOp (fInI true) (dVar 3) (dVar 5))) (dVar 3))) (dL (dLst dNil))))) (dVar 7))) (dL (dLst dNil)))) (dApp 6 (dVar 5)) dNext))))
    (dRet (dOp fEqS (dB1 fRepr (dCall (sp_least_choices C) [] (dCons (dVar 0) (dCons (dVar 1) dNil)))) (dB1 fRepr (dOwn 6))))))))))
theorem prt_len : ∀ n, (prtN n).length = 2 ^ n := by
  intro n
  unfold prtN
  induction n with
  | zero => rfl
  | succ n ih =>
    rw [List.range_succ, List.foldl_append]
    show (_ ++ List.map _ _).length = _
    rw [List.length_append, List.length_map, ih, Nat.pow_succ]; omega
theorem prt_el : ∀ n, ∀ c ∈ prtN n, c.length ≤ n := by
  intro n
  unfold prtN
  induction n with
  | zero => intro c hc; rw [List.mem_singleton.mp hc]; simp
  | succ n ih =>
    intro c hc
    rw [List.range_succ, List.foldl_append] at hc
    rcases List.mem_append.mp hc with z | z
    · have := ih c z; omega
    · obtain ⟨o, ho, rfl⟩ := List.mem_map.mp z
      have := ih o ho
      simp; omega
theorem notin_nil (o c : List Int) : (o.filter fun i => !decide (i ∈ c)).isEmpty = inAll o c := by
  unfold inAll
  induction o with
  | nil => rfl
  | cons i r ih =>
    rw [List.filter_cons, List.all_cons, ← ih]
    cases decide (i ∈ c) <;> rfl
theorem cutD_tail (x : D) (r : List D) : cutD (x :: r) (some 1) none = r := by
  unfold cutD
  have e1 : HT.sIx (x :: r).length 0 (some 1) = 1 := by
    have := HT.sIx_nat (x :: r).length 0 1
    rw [List.length_cons] at this ⊢
    have e : ((1 : Nat) : Int) = 1 := rfl
    rw [e] at this
    rw [this]; omega
  rw [e1, HT.sIx_none]
  simp
theorem slR_tail {x : D} {r : List D} {k : D → Prop} (h : k (.lst r)) : slR (.lst (x :: r)) (some 1) none k := by
  show k (.lst (cutD (x :: r) (some 1) none))
  rw [cutD_tail]; exact h
set_option maxHeartbeats 1000000 in
theorem sh__law_choices_right (C : Cl) : Shows (sp__law_choices_right C) 8 (rd__law_choices_right C) := by
  intro ds M q e h
  obtain ⟨d, x, rfl, hs, rfl, hh, h⟩ := ar2_of h
  obtain ⟨hi, e1, ⟨h1, h2⟩, hq⟩ := asI_of h
  subst e1
  have hlen : (hs.map D.int).length = hs.length := List.length_map ..
  have hl6 := hh.2.1
  obtain ⟨s1, s2, c1, c2, c3, c4, c5⟩ := chOk hh.2.1
  refine ⟨by simp, by simp, ?_⟩
  dsimp only [dSeq, dInN, dPutN, dGetN, dNewN, dCallL, dCallLK, dRetL, dRetOwn, dNext, dSet, dSetO, dRet, dRetN, dDrop, dIfS, dFor, dPar, dPar3, dParL2, dParL3, dAsg, dFrz, dIf, dTst, dOp, dVar, dOwn, dC, dB1, dG1, dL, dLst, dCons, dNil, dTup, dCall, dCallK, dAnd, dOr, dNot, dAndV, dOrV, dNotV, dNeg, dChain, dNever, dNeverS, dRaise, dYes, gNm, gsCons, gsNil, gTp, gt, st, fAdd, fSub, fMul, fDiv, fMod, fPow, fShl, fShr, fCmp, fEq, fNe, fEqS, fNeS, fIs, fIsNot, fLen, fMin, fMax, fMin2, fMax2, fAll, fAny, fAbs, fTup, fRepr, fIx, atD, isB, ls2, ls3, startR, ar1, ar2, ar3, ar4, asI, asT, asL, asDraw, sp_take, sp_pick, sp_begin, List.map, List.append, List.replicate, List.length, List.cons_append, List.nil_append, Nat.sub_self, Nat.reduceSub, Nat.reduceAdd, dApp, isOwn, appR, dSl, dPt, dNo, slR, asIn, List.map_cons, List.map_nil]
  refine ⟨by omega, by omega, ?_⟩
  rw [show ((hs.map D.int).length : Int).toNat = hs.length by rw [hlen]; omega]
  refine forR_ix (fun k ρ M' => M' = M ∧ ∃ x3 : Option D, ρ = [some (.val (.lst (hs.map .int))), some (.val (.int hi)), some (.val (.lst ((prtN k).map tupI))), x3.map .val, none, none, none, none]) _ 0 ?_ ?_ _ _ ⟨rfl, none, rfl⟩
  · rintro k x hx F hF ρ M' ⟨rfl, x3, rfl⟩
    have hk : k < hs.length := by
      have := (List.getElem?_eq_some_iff.mp hx).1
      unfold rngD at this
      rw [List.length_map, List.length_range] at this
      exact this
    have ex : x = .int k := by
      unfold rngD at hx
      rw [List.getElem?_map, List.getElem?_range hk] at hx
      cases hx
      show D.int (0 + (k : Int)) = _
      rw [Int.zero_add]
    subst ex
    rw [Nat.zero_add] at hF ⊢
    have pl := prt_len k
    have p6 : 2 ^ k ≤ 2 ^ 6 := Nat.pow_le_pow_right (by decide) (by omega)
    refine ⟨rfl, ?_⟩
    refine compR_map (fun d => tupI (untup d ++ [(k : Int)])) _ (fun y hy kt kf kk => ?_) (by rw [List.length_map]; omega) ?_
    · obtain ⟨c, hc, rfl⟩ := List.mem_map.mp hy
      have := prt_el k c hc
      refine ⟨by simp, by simp; omega, ?_⟩
      rw [untup_tupI] at kk
      have e2 : c.map D.int ++ [.int (k : Int)] = (c ++ [(k : Int)]).map .int := by simp
      show kt (.tup (c.map D.int ++ [.int (k : Int)])) M'
      rw [e2]
      exact kk
    · rw [List.map_map]
      refine ⟨by rw [List.length_map, List.length_map]; omega, ?_⟩
      refine hF _ _ ⟨rfl, some (.int k), ?_⟩
      have e2 : (prtN k).map tupI ++ (prtN k).map ((fun d => tupI (untup d ++ [(k : Int)])) ∘ tupI) = (prtN (k + 1)).map tupI := by
        unfold prtN
        rw [List.range_succ, List.foldl_append]
        show _ = List.map tupI (_ ++ List.map _ _)
        rw [List.map_append, List.map_map]
        congr 1
        refine List.map_congr_left fun c _ => ?_
        show tupI (untup (tupI c) ++ _) = _
        rw [untup_tupI]; rfl
      exact congrArg (fun z => [_, _, some (Sv.val (.lst z)), _, _, _, _, _]) e2
  rintro ρ M' ⟨rfl, x3, rfl⟩
  have e3 : (0 : Nat) + (rngD 0 hs.length).length = hs.length := by unfold rngD; rw [List.length_map, List.length_range, Nat.zero_add]
  rw [e3]
  refine ⟨by simp, ?_⟩
  refine ⟨prtN hs.length, rfl, .inr ?_, fun mss m1 m2 => ?_⟩
  · have : ∀ n, ∃ r, prtN n = [] :: r := by
      intro n
      unfold prtN
      induction n with
      | zero => exact ⟨[], rfl⟩
      | succ n ih =>
        obtain ⟨r, er⟩ := ih
        rw [List.range_succ, List.foldl_append]
        show ∃ r, _ ++ List.map _ _ = [] :: r
        rw [er]
        exact ⟨_, rfl⟩
    exact this _
  rw [srt_uniq m1 s2 (m2.trans c2.symm), List.map_cons]
  dsimp only [dPt, dNo, asIn, dC]
  refine slR_tail ?_
  dsimp only
  refine forR_ind (fun rem ρ M2 => M2 = M' ∧ ∃ (done rest : List (List Int)) (x3 : Option D) (x5 : Option Sv), rem = rest.map tupI ∧ ρ = [some (.val (.lst (hs.map .int))), some (.val (.int hi)), some (.val (.lst ((prtN hs.length).map tupI))), x3.map .val, some (.own ((done.filter fun c => !mixB (atH hs c) 0 hi).map tupI)), x5, none, none] ∧ srtN hs.length = done ++ rest) ?_ ?_ _ _ _ ⟨rfl, [], srtN hs.length, x3, none, rfl, rfl, rfl⟩
  · rintro x r ρ M2 ⟨rfl, done, rest, x3, x5, hr, rfl, hg⟩ F hF
    cases rest with
    | nil => cases hr
    | cons c rest =>
      cases hr
      have co := c4 c (by rw [hg]; simp)
      refine ⟨by cases x3 <;> rfl, ?_⟩
      refine comp_at co.2.1 (fun i hi kt k => fIx_seq (.inl rfl) (co.2.2 i hi).1 (co.2.2 i hi).2 k) ?_
      refine ⟨atH hs c, .inl rfl, (atH_ok hh co).sm, ⟨⟨by omega, by omega⟩, ⟨by omega, by omega⟩⟩, fun d1 hd1 => ?_⟩
      subst hd1
      cases c1 : mixB (atH hs c) 0 hi with
      | true =>
        refine hF _ _ ⟨rfl, done ++ [c], rest, x3, some (.val (tupI c)), rfl, ?_, by rw [hg]; simp⟩
        rw [filter_snoc, c1, if_neg (by simp), List.append_nil]; rfl
      | false =>
        refine ⟨trivial, ?_⟩
        dsimp only [dSeq, dInN, dPutN, dGetN, dNewN, dCallL, dCallLK, dRetL, dRetOwn, dNext, dSet, dSetO, dRet, dRetN, dDrop, dIfS, dFor, dPar, dPar3, dParL2, dParL3, dAsg, dFrz, dIf, dTst, dOp, dVar, dOwn, dC, dB1, dG1, dL, dLst, dCons, dNil, dTup, dCall, dCallK, dAnd, dOr, dNot, dAndV, dOrV, dNotV, dNeg, dChain, dNever, dNeverS, dRaise, dYes, gNm, gsCons, gsNil, gTp, gt, st, fAdd, fSub, fMul, fDiv, fMod, fPow, fShl, fShr, fCmp, fEq, fNe, fEqS, fNeS, fIs, fIsNot, fLen, fMin, fMax, fMin2, fMax2, fAll, fAny, fAbs, fTup, fRepr, fIx, atD, isB, ls2, ls3, startR, ar1, ar2, ar3, ar4, asI, asT, asL, asDraw, sp_take, sp_pick, sp_begin, List.map, List.append, List.replicate, List.length, List.cons_append, List.nil_append, Nat.sub_self, Nat.reduceSub, Nat.reduceAdd, dApp, isOwn, appR, dSl, dPt, dNo, slR, asIn, List.map_cons, List.map_nil]
        refine ⟨?_, hF _ _ ⟨rfl, done ++ [c], rest, x3, some (.val (tupI c)), rfl, ?_, by rw [hg]; simp⟩⟩
        · rw [List.length_map]
          have : (done.filter fun c => !mixB (atH hs c) 0 hi).length ≤ done.length := List.length_filter_le ..
          have : (srtN hs.length).length = done.length + (rest.length + 1) := by conv => { lhs; rw [hg] }; simp
          omega
        · rw [filter_snoc, c1, if_pos (by simp), List.map_append]; rfl
  rintro ρ M2 ⟨rfl, done, rest, x3, x5, hr, rfl, hg⟩
  have e0 : rest = [] := by cases rest with | nil => rfl | cons => cases hr
  subst e0
  rw [List.append_nil] at hg
  rw [← hg]
  have hgl : (goodL hs hi).length ≤ 63 := Nat.le_trans (List.length_filter_le ..) c5
  have hge : ∀ c ∈ goodL hs hi, c ≠ [] ∧ c.length ≤ 6 ∧ ∀ i ∈ c, 0 ≤ i ∧ i < hs.length := fun c hc => c4 c (List.mem_filter.mp hc).1
  have hgE : ((srtN hs.length).filter fun c => !mixB (atH hs c) 0 hi) = goodL hs hi := rfl
  rw [hgE]
  generalize hG : goodL hs hi = G at *
  refine ⟨by simp, ?_⟩
  refine forR_ind (fun rem ρ M3 => M3 = M2 ∧ ∃ (done rest : List (List Int)) (x3 : Option D) (x5 : Option Sv), rem = rest.map tupI ∧ ρ = [some (.val (.lst (hs.map .int))), some (.val (.int hi)), some (.val (.lst ((prtN hs.length).map tupI))), x3.map .val, some (.val (.lst (G.map tupI))), x5, some (.own ((done.filter (lonely G)).map tupI)), none] ∧ G = done ++ rest) ?_ ?_ _ _ _ ⟨rfl, [], G, x3, x5, rfl, rfl, rfl⟩
  · rintro x r ρ M2 ⟨rfl, done, rest, x3, x5, hr, rfl, hg2⟩ F hF
    cases rest with
    | nil => cases hr
    | cons c rest =>
      cases hr
      refine ⟨rfl, ?_⟩
      refine compR_flt (fun d => !decide (untup d = c) && inAll (untup d) c) _ (fun y hy kt kf kk => ?_) (by rw [List.length_map]; omega) ?_
      · obtain ⟨o, ho, rfl⟩ := List.mem_map.mp hy
        rw [untup_tupI] at kk
        refine ⟨by rw [okD_it, okD_it]; rfl, ?_⟩
        rw [eqD_tupI]
        cases c1 : decide (o = c) with
        | true =>
          rw [c1] at kk
          exact kk
        | false =>
          rw [c1] at kk
          refine ⟨by cases x3 <;> rfl, ?_⟩
          refine compR_flt (fun d => match d with | .int i => !decide (i ∈ c) | _ => false) _ (fun z hz kt kf k => ?_) (by rw [List.length_map]; have := (hge o ho).2.1; omega) ?_
          · obtain ⟨i, hi, rfl⟩ := List.mem_map.mp hz
            show fInI true (.int i) (tupI c) fun z => isB z fun b => if b = true then kt (.int i) M2 else kf M2
            exact fInI_tup true i c _ k
          · have e4 : (o.map D.int).filter (fun d => match d with | .int i => !decide (i ∈ c) | _ => false) = (o.filter fun i => !decide (i ∈ c)).map .int := by rw [List.filter_map]; rfl
            rw [e4]
            refine ⟨by simp, by rw [okD_il]; rfl, ?_⟩
            rw [eqD_nil, notin_nil]
            exact kk
      · rw [filter_tup (fun o => !decide (o = c) && inAll o c) _ (fun o => by rw [untup_tupI])]
        refine ⟨by simp, by rw [okD_tups]; rfl, ?_⟩
        rw [eqD_tups, lonely_is]
        cases c1 : lonely G c with
        | true =>
          refine ⟨trivial, ?_⟩
          dsimp only [dSeq, dInN, dPutN, dGetN, dNewN, dCallL, dCallLK, dRetL, dRetOwn, dNext, dSet, dSetO, dRet, dRetN, dDrop, dIfS, dFor, dPar, dPar3, dParL2, dParL3, dAsg, dFrz, dIf, dTst, dOp, dVar, dOwn, dC, dB1, dG1, dL, dLst, dCons, dNil, dTup, dCall, dCallK, dAnd, dOr, dNot, dAndV, dOrV, dNotV, dNeg, dChain, dNever, dNeverS, dRaise, dYes, gNm, gsCons, gsNil, gTp, gt, st, fAdd, fSub, fMul, fDiv, fMod, fPow, fShl, fShr, fCmp, fEq, fNe, fEqS, fNeS, fIs, fIsNot, fLen, fMin, fMax, fMin2, fMax2, fAll, fAny, fAbs, fTup, fRepr, fIx, atD, isB, ls2, ls3, startR, ar1, ar2, ar3, ar4, asI, asT, asL, asDraw, sp_take, sp_pick, sp_begin, List.map, List.append, List.replicate, List.length, List.cons_append, List.nil_append, Nat.sub_self, Nat.reduceSub, Nat.reduceAdd, dApp, isOwn, appR, dSl, dPt, dNo, slR, asIn, List.map_cons, List.map_nil]
          refine ⟨?_, hF _ _ ⟨rfl, done ++ [c], rest, x3, some (.val (tupI c)), rfl, ?_, by rw [hg2]; simp⟩⟩
          · rw [List.length_map]
            have : (done.filter (lonely G)).length ≤ done.length := List.length_filter_le ..
            have : G.length = done.length + (rest.length + 1) := by conv => { lhs; rw [hg2] }; simp
            omega
          · rw [filter_snoc, c1, if_pos rfl, List.map_append]; rfl
        | false =>
          refine hF _ _ ⟨rfl, done ++ [c], rest, x3, some (.val (tupI c)), rfl, ?_, by rw [hg2]; simp⟩
          rw [filter_snoc, c1, if_neg Bool.false_ne_true, List.append_nil]; rfl
  · rintro ρ M2 ⟨rfl, done, rest, x3, x5, hr, rfl, hg2⟩
    have e0 : rest = [] := by cases rest with | nil => rfl | cons => cases hr
    subst e0
    rw [List.append_nil] at hg2
    subst hg2
    have hsz : Shw 2 100000 (.lst ((leastL G).map tupI)) := by
      have h1 : ShwL 1 ((1272 + 1) * ((leastL G).map tupI).length) ((leastL G).map tupI) := .all fun d hd => by
        obtain ⟨c, hc, rfl⟩ := List.mem_map.mp hd
        have co := hge c (List.mem_filter.mp hc).1
        have h2 := Shw.tup (Shw.ints (n := 0) (ns := c) fun i hi => by have := co.2.2 i hi; exact ⟨by omega, by omega⟩)
        exact ⟨h2.ok, h2.sh, h2.lv, Nat.le_trans h2.wt (by have := co.2.1; omega)⟩
      have h3 := Shw.lst h1
      have h4 : (leastL G).length ≤ G.length := List.length_filter_le ..
      rw [List.length_map] at h3
      exact ⟨h3.ok, h3.sh, h3.lv, Nat.le_trans h3.wt (by omega)⟩
    refine ⟨hs, .inl rfl, hh, ⟨h1, h2⟩, fun d1 hd1 => ?_⟩
    rw [hG] at hd1
    subst hd1
    refine ⟨hsz.ok50, hsz.show (by decide), hsz.ok50, hsz.show (by decide), M2, MLe.refl _, ?_⟩
    rw [show leastL G = G.filter (lonely G) from rfl, decide_eq_true rfl]
    exact hq
end Px

set_option Elab.async false
set_option linter.all false
set_option maxRecDepth 100000
namespace Px
open PySem PySem.Spec PyProof.Rows L2
/-! # sets of ints made by a comprehension -/
abbrev setAt (w : World) (D : Addr) (S : Int → Bool) (n : Nat) (H : Hp) : Hp := upd H D (SetO w D S n)
/-- an int goes to the set at D -/
def ScAdd (w : World) (D : Addr) (go : Hp → Prop) : VK := fun y H => ∃ (k : Int) (S : Int → Bool) (n : Nat), y = .int k ∧ H D = some (SetO w D S n) ∧ n + 1 < scanBound ∧ go (setAt w D (fun j => S j || decide (j = k)) (if S k = true then n else n + 1) H)
def ScTurn (w : World) (J : It) (D : Addr) (Q : Hp → Prop) (g : TG) (tt : TT) (te : TE) (vs : List Nat) (σ : L2.St) (W : Nat → Nat → Hp → Prop) : Prop := ∀ i m H, W i m H →
  (J.stop i H ∧ Q H) ∨ (J.go i H ∧ ∀ x H', J.yld i H x H' → g x (wipe σ vs) H' fun σ2 H2 => wipe σ2 vs = wipe σ vs ∧
    tt σ2 H2 fun b H3 => if b = true then te σ2 H3 (ScAdd w D fun H4 => ∃ m', m' < m ∧ W (i + 1) m' H4) else ∃ m', m' < m ∧ W (i + 1) m' H3)
def tScI (w : World) (wi : TI) (g : TG) (tt : TT) (te : TE) (vs : List Nat) : TE := fun σ H Q => wi σ H fun J H1 => ∀ D, H1 D = none →
  ∃ W : Nat → Nat → Hp → Prop, (∃ m, W 0 m (setAt w D (fun _ => false) 0 H1)) ∧ ScTurn w J D (fun H2 => Q (.ref D) H2) g tt te vs σ W
section
variable {B : Cx} {tg elt iter : Expr} {ifs : List Expr} {scope : Scope} {pos : Pos} {g : TG} {tt : TT} {te : TE} {vs : List Nat} {σ : L2.St} {J : It} {D it : Addr} {fp : List Addr} {tn : Nat → Heap → Prop} {Q : Hp → Prop} {W : Nat → Nat → Hp → Prop}
theorem fp_still (he : B.ex = fp) (hp : B.pn = []) {σ' : L2.St} {H' : Hp} {s' : Shared} (I : Inv B [] σ' H' s') (n : ∀ b ∈ fp, H' b = none) : ∀ b ∈ fp, FpOk B [] H' b := by
  subst he
  intro b hb
  refine ⟨n b hb, (I.ok.exf b hb).1, I.ok.exfs b hb, .inl hb, fun x c e => (I.ok.exf b hb).2 x c e, fun p h => ?_⟩
  rw [hp] at h
  cases h
/-- the loop over the items, in the block's own context -/
theorem scI_loop (hx : B.xe = fun _ _ => False) (hc : B.calm = true) (he : B.ex = fp) (hp : B.pn = []) (T : Turn B.prog B.w B.K tg J fp it tn) (pg : PG B tg g) (pt : PTs B ifs tt) (pe : PE B elt te)
    (turn : ScTurn B.w J D Q g tt te vs σ W) {R : Result → Shared → Prop} (hR : ∀ H' s', Inv B [] (wipe σ vs) H' s' → Q H' → R (.ok .next) s') (m : Nat) (s0 : Shared) (H0 : Hp) (I0 : Inv B [] (wipe σ vs) H0 s0) (t0 : tn 0 s0.heap) (f0 : ∀ b ∈ fp, H0 b = none) (w0 : W 0 m H0) :
    codeAny (model B.prog B.w) B.A (.compLoop (.SetComp elt [⟨tg, iter, ifs, 0⟩] scope pos) 0 (.ref it) (.ref D) B.env) R s0 := by
  have none_raise : ∀ {α : Type} {t : Sem α} {P P' : α → Shared → Prop} {E : Value → Shared → Prop} {s : Shared}, wpAny (model B.prog B.w) B.A t P B.xe s → (∀ a s, P a s → P' a s) → wpAny (model B.prog B.w) B.A t P' E s := fun h k => by
    rw [hx] at h
    exact thnF h k
  refine PpSet.compLoopS_any (fun k s => ∃ i H, Inv B [] (wipe σ vs) H s ∧ tn i s.heap ∧ (∀ b ∈ fp, H b = none) ∧ W i k H) ?_ m ⟨0, H0, I0, t0, f0, w0⟩
  rintro k s ⟨i, H, I, ti, fi, wi⟩
  have still := fp_still he hp I fi
  rcases turn i k H wi with ⟨hs, q⟩ | ⟨hg, step⟩
  · refine thnF (T.done B rfl rfl rfl hc i [] s _ H (fun _ _ => False) I still ti hs) fun r s1 h => ?_
    rw [h.1]
    exact hR H s1 h.2 q
  · refine thnF (T.item B rfl rfl rfl hc i [] s _ H (fun _ _ => False) I still ti hg) fun r s1 h1 => ?_
    obtain ⟨u, er, h1⟩ := h1
    rw [er]
    refine thnF h1 fun _ s2 h2 => ?_
    obtain ⟨x, H2, I2, rx, yx, t2, f2⟩ := h2
    have J2 := I2.pinned (fp_still he hp I2 f2) (T.obj _ _ t2)
    have close : ∀ {σ3 : L2.St} {H3 : Hp} {s3 : Shared}, wipe σ3 vs = wipe σ vs → Inv B ([] ++ pinsAt fp s2.heap) σ3 H3 s3 → (∃ m', m' < k ∧ W (i + 1) m' H3) → ∃ m', m' < k ∧ ∃ i H, Inv B [] (wipe σ vs) H s3 ∧ tn i s3.heap ∧ (∀ b ∈ fp, H b = none) ∧ W i m' H := by
      rintro σ3 H3 s3 ew I3 ⟨m', lt, w3⟩
      have held : ∀ b ∈ fp, ∀ o, s2.heap.get? b = some o → s3.heap.get? b = some o ∧ H3 b = none := fun b hb o e =>
        have z := I3.pin (b, o) (List.mem_append_right _ (List.mem_append_right _ (mem_pinsAt hb e)))
        ⟨z.1, z.2.1⟩
      refine ⟨m', lt, i + 1, H3, I3.unpinned.weak (by rw [← ew, wipe_length]) fun j v e => ?_, T.keep _ _ _ t2 fun b hb o e => (held b hb o e).1, fun b hb => ?_, w3⟩
      · rw [← ew] at e
        exact (wipe_some e).1
      · obtain ⟨o, e, _⟩ := T.obj _ _ t2 b hb
        exact (held b hb o e).2
    refine none_raise (pg.run _ s2 _ H2 x u _ J2 rx (step x H2 yx)) fun _ s3 h3 => ?_
    obtain ⟨σ3, H3, I3, ew, q3⟩ := h3
    refine none_raise (pt.run _ s3 σ3 H3 _ I3 q3) fun b s4 h4 => ?_
    obtain ⟨H4, I4, q4⟩ := h4
    cases b with
    | false => exact close ew I4 q4
    | true =>
      refine none_raise (pe.run _ s4 σ3 H4 _ I4 q4) fun z s5 h5 => ?_
      obtain ⟨y, H5, I5, ry, a, S, n, ey, h6, hn, go⟩ := h5
      refine none_raise (mt_sadd _ s5 σ3 H5 (.ref D) [y] (.ref D) [z] (fun _ H6 => ∃ m', m' < k ∧ W (i + 1) m' H6) I5 rfl (.cons ry .nil) ⟨D, a, S, n, rfl, by rw [ey], h6, hn, go⟩) fun _ s6 h7 => ?_
      obtain ⟨_, H6, I6, _, q6⟩ := h7
      exact close ew I6 q6
end
section
variable {X : Cx}
theorem pe_scI {elt tg iter : Expr} {ifs : List Expr} {scope : Scope} {own : List (PySem.Str × Nat)} {pos : Pos} {wi : TI} {g : TG} {tt : TT} {te : TE} (hc : X.calm = true) (hN : X.N.Nodup) (hi : PI X tg iter wi) (ok : BlkOk X.N X.env.scope scope own)
    (hg : ∀ (s : Shared) (H : Hp) (C : Addr) (cs : List (PySem.Str × Addr)) (fp : List Addr), PG (X.blk s H scope (compEnvC scope cs C X.env) fp) tg g)
    (ht : ∀ (s : Shared) (H : Hp) (C : Addr) (cs : List (PySem.Str × Addr)) (fp : List Addr), PTs (X.blk s H scope (compEnvC scope cs C X.env) fp) ifs tt)
    (he : ∀ (s : Shared) (H : Hp) (C : Addr) (cs : List (PySem.Str × Addr)) (fp : List Addr), PE (X.blk s H scope (compEnvC scope cs C X.env) fp) elt te) (hs : ∀ x, foldedSetIterable iter X.env x = pure x := by intro _; rfl) :
    PE X (.SetComp elt [⟨tg, iter, ifs, 0⟩] scope pos) (tScI X.w wi g tt te (own.map (·.2))) := by
  refine ⟨fun pins s σ H Q I h => ?_⟩
  rw [PpSet.eval_SetComp]
  have cells : ∀ y ∈ scope.names, y.2 = .free → ∃ c, X.env.cells.lookup y.1 = some c := fun y hy e => I.ok.has _ ((ok.free y hy e).elim .inl .inr)
  refine wpAny_comprehension_free (use := none) rfl hs (closure_ok cells) ok.kind (fun y hy e => (ok.uniq y hy).trans (congrArg some e)) ?_
  refine thn (hi.run pins s σ H _ I h) fun xv s1 h1 => thn h1 fun itv s2 h2 => ?_
  obtain ⟨it, fp, tn, J, H2, rfl, I2, T, t2, f2, q⟩ := h2
  refine PpSet.newSet_ok (newEnv_comp ?_)
  have hD : H2 s2.heap.objs.size = none := I2.hok.fresh (Nat.le_refl _)
  obtain ⟨W, ⟨m, w0⟩, turn⟩ := q _ hD
  generalize hs3 : (⟨s2.heap.push _, s2.gens, s2.drawn, s2.toks, s2.os⟩ : Shared) = s3
  generalize eD : s2.heap.objs.size = D at hD w0 turn ⊢
  generalize hset : setAt X.w D (fun _ => false) 0 H2 = H3 at w0
  have I3 : Inv X pins σ H3 s3 := by
    rw [← hs3, ← hset, ← eD]
    exact I2.laid (fun b o e => Heap.get?_push_of_some _ e) (Nat.le_refl _) (setO_new (setR_fresh X.w))
  have up : ∀ b o, s2.heap.get? b = some o → s3.heap.get? b = some o := fun b o e => by rw [← hs3]; exact Heap.get?_push_of_some _ e
  have f3 : ∀ b ∈ fp, FpOk X pins H3 b ∧ b < s3.heap.objs.size := fun b hb => by
    obtain ⟨o, e, _⟩ := T.obj _ _ t2 b hb
    have lt := Heap.lt_size e
    refine ⟨⟨?_, (f2 b hb).2⟩, Heap.lt_size (up b o e)⟩
    rw [← hset, ← eD]
    exact (upd_ne (Nat.ne_of_lt lt)).trans (f2 b hb).1
  have I4 := block_start I3 ok hN f3
  have pg := hg s3 H3 s3.heap.objs.size (cellsFrom (s3.heap.objs.size + 1) scope.names (cloFrom X.env.cells scope.names [])) fp
  have pt := ht s3 H3 s3.heap.objs.size (cellsFrom (s3.heap.objs.size + 1) scope.names (cloFrom X.env.cells scope.names [])) fp
  have pe := he s3 H3 s3.heap.objs.size (cellsFrom (s3.heap.objs.size + 1) scope.names (cloFrom X.env.cells scope.names [])) fp
  generalize hk : s3.heap.objs.size = k at I4 pg pt pe ⊢
  show codeAny _ _ (.compStart (.SetComp elt [⟨tg, iter, ifs, 0⟩] scope pos) 0 (.ref it) (.ref D) (compEnvC scope (cellsFrom (k + 1) scope.names (cloFrom X.env.cells scope.names [])) k X.env)) (compPost (model X.prog X.w) X.A X.xe none (EP X pins σ Q) (.ref D) k) _
  have nD : ∀ b ∈ fp, H3 b = none := fun b hb => (f3 b hb).1.1
  generalize hce : compEnvC scope (cellsFrom (k + 1) scope.names (cloFrom X.env.cells scope.names [])) k X.env = ce at I4 pg pt pe ⊢
  have cL : ce.locals = k := by rw [← hce]; rfl
  generalize hs4 : (⟨pushCells (s3.heap.push _) _, s3.gens, s3.drawn, s3.toks, s3.os⟩ : Shared) = s4 at I4 ⊢
  have t4 : tn 0 s4.heap := T.keep _ _ _ t2 fun b _ o e => by
    rw [← hs4]
    exact pushCells_keeps _ _ _ _ (Heap.get?_push_of_some _ (up b o e))
  have loop := scI_loop (B := X.blk s3 H3 scope ce fp) (scope := scope) (iter := iter) (pos := pos) (D := D) (R := compPost (model X.prog X.w) X.A X.xe none (EP X pins σ Q) (.ref D) k) rfl hc rfl rfl T pg pt pe turn (fun H' s' I' qq => by
    have back : Inv X pins σ H' s' := I3.call' (ch := fp) I'.os I'.base I'.hok I'.bare fun b hb =>
      have z := (f3 b hb).1.2
      ⟨z.2.2.1, z.1, z.2.2.2.1, z.2.2.2.2⟩
    have nk : H' k = none := by rw [← cL]; exact I'.free
    obtain ⟨m', hn, _⟩ := I'.loc
    have hn : s'.heap.Ns ce.locals m' := hn
    rw [cL] at hn
    obtain ⟨z0, z1, z2, z3, z4, z5⟩ := I3.fpOk (Nat.le_of_eq hk) nk
    exact ⟨m', hn, fun h2 sb => ⟨.ref D, H', back.turned (t' := s'.toks) (fun b o ne e => (sb.2 b ne).trans e) z0 z1 z3 z4 z5, rfl, qq⟩⟩) m s4 H3 I4 t4 nD w0
  exact PpSet.codeAny_compStart_set loop (T.self X.A 0 _ _ _ t4 loop)
end
end Px

set_option Elab.async false
set_option linter.all false
set_option maxRecDepth 100000
namespace Px
open PySem PySem.Spec PyProof.Rows L2
/-! # an object that the data do not tell of: it stays -/
/-- as if the def were entered here -/
def Gh.here (g : Gh) (H F : Hp) (O : Own) : Gh where
  H0 := fun a => match O a with
    | none => H a
    | some (.obj _) => H a
    | some _ => none
  F0 := F
  own0 := fun a => ∃ m, O a = some (.obj m)
  tmp := g.tmp
section
variable {K : PySem.W.Frag} {g : Gh} {σ σ' : L2.St} {H H' F F' : Hp} {ρ ρ' : Rho} {M M' : Mm} {O O' : Own} {D : Addr} {o : HO}
theorem here_none (A : Ab K g σ H ρ M F O) {a : Addr} (e : (g.here H F O).H0 a = none) : g.H0 a = none := by
  unfold Gh.here at e
  dsimp only at e
  cases h : g.H0 a with
  | none => rfl
  | some u =>
    obtain ⟨u', hu⟩ := A.thr a u h
    cases ho : O a with
    | none => rw [ho, hu] at e; cases e
    | some w => cases w with
      | obj m => rw [ho, hu] at e; cases e
      | slot i => rw [A.slo a _ ho fun m z => by cases z] at h; cases h
      | tmp => rw [A.slo a _ ho fun m z => by cases z] at h; cases h
theorem here_some (A : Ab K g σ H ρ M F O) {a : Addr} {u : HO} (e : g.H0 a = some u) (n : ¬ g.own0 a) : (g.here H F O).H0 a = some u ∧ ¬ (g.here H F O).own0 a := by
  have h := A.frm a u e n
  have hO : O a = none := by
    cases ho : O a with
    | none => rfl
    | some w => rcases (A.liv a w ho).2.2 with z | z
                · exact absurd z n
                · rw [e] at z; cases z
  unfold Gh.here
  dsimp only
  rw [hO]
  exact ⟨h, fun ⟨m, z⟩ => by cases z⟩
theorem Ab.here (A : Ab K g σ H ρ M F O) : Ab K (g.here H F O) σ H ρ M F O :=
  { sub := A.sub, ext0 := Same.refl F, new := fun a u e => .inl e
    frm := fun a u e n => by
      unfold Gh.here at e
      dsimp only at e
      cases ho : O a with
      | none => rw [ho] at e; exact e
      | some w => cases w with
        | obj m => rw [ho] at e; exact e
        | slot i => rw [ho] at e; cases e
        | tmp => rw [ho] at e; cases e
    thr := fun a u e => by
      unfold Gh.here at e
      dsimp only at e
      cases ho : O a with
      | none => rw [ho] at e; exact ⟨u, e⟩
      | some w => cases w with
        | obj m => rw [ho] at e; exact ⟨u, e⟩
        | slot i => rw [ho] at e; cases e
        | tmp => rw [ho] at e; cases e
    liv := fun a w e => ⟨(A.liv a w e).1, (A.liv a w e).2.1, by
      unfold Gh.here
      dsimp only
      rw [e]
      cases w with
      | obj m => exact .inl ⟨m, rfl⟩
      | slot i => exact .inr rfl
      | tmp => exact .inr rfl⟩
    slo := fun a w e n => by
      unfold Gh.here
      dsimp only
      rw [e]
      cases w with
      | obj m => exact absurd rfl (n m)
      | slot i => rfl
      | tmp => rfl
    tm := A.tm, mu := A.mu, len := A.len, sl := A.sl }
theorem Ab.there (A : Ab K g σ H ρ M F O) (A' : Ab K (g.here H F O) σ' H' ρ' M' F' O') : Ab K g σ' H' ρ' M' F' O' :=
  { sub := A'.sub, ext0 := A.ext0.trans A'.ext0
    new := fun a u e => by
      rcases A'.new a u e with h | h
      · exact A.new a u h
      · exact .inr (here_none A h)
    frm := fun a u e n => let z := here_some A e n; A'.frm a u z.1 z.2
    thr := fun a u e => by
      cases h : (g.here H F O).H0 a with
      | some u' => exact A'.thr a u' h
      | none => rw [here_none A h] at e; cases e
    liv := fun a w e => ⟨(A'.liv a w e).1, (A'.liv a w e).2.1, by
      rcases (A'.liv a w e).2.2 with ⟨m, h⟩ | h
      · exact (A.liv a _ h).2.2
      · exact .inr (here_none A h)⟩
    slo := fun a w e n => here_none A (A'.slo a w e n)
    tm := A'.tm, mu := A'.mu, len := A'.len, sl := A'.sl }
/-- nobody's object stays as it is -/
theorem kept_at (A : Ab K g σ H ρ M F O) (hD : H D = some o) (hF : F D = none) (hO : O D = none) (A' : Ab K (g.here H F O) σ' H' ρ' M' F' O') : H' D = some o ∧ F' D = none ∧ O' D = none := by
  have h0 : (g.here H F O).H0 D = some o := by unfold Gh.here; dsimp only; rw [hO]; exact hD
  have n0 : ¬ (g.here H F O).own0 D := fun ⟨m, z⟩ => by rw [hO] at z; cases z
  refine ⟨A'.frm D o h0 n0, ?_, ?_⟩
  · cases h : F' D with
    | none => rfl
    | some u => rcases A'.new D u h with z | z
                · have z : F D = some u := z
                  rw [hF] at z; cases z
                · rw [h0] at z; cases z
  · cases h : O' D with
    | none => rfl
    | some w => rcases (A'.liv D w h).2.2 with z | z
                · exact absurd z n0
                · rw [h0] at z; cases z
/-- nobody's object may turn -/
theorem Ab.other (A : Ab K g σ H ρ M F O) (hF : F D = none) (hO : O D = none) (h0 : g.H0 D = none) : Ab K g σ (upd H D o) ρ M F O := by
  have ne : ∀ b w, O b = some w → b ≠ D := fun b w e z => by rw [z, hO] at e; cases e
  have ne0 : ∀ b u, g.H0 b = some u → b ≠ D := fun b u e z => by rw [z, h0] at e; cases e
  exact { sub := fun b u e => (upd_ne fun z => by rw [z, hF] at e; cases e).trans (A.sub b u e), ext0 := A.ext0, new := A.new
          frm := fun b u e n => (upd_ne (ne0 b u e)).trans (A.frm b u e n)
          thr := fun b u e => by
            obtain ⟨u', z⟩ := A.thr b u e
            exact ⟨u', (upd_ne (ne0 b u e)).trans z⟩
          liv := fun b w e => by
            obtain ⟨⟨u, z⟩, r⟩ := A.liv b w e
            exact ⟨⟨u, (upd_ne (ne b w e)).trans z⟩, r⟩
          slo := A.slo
          tm := fun p l e => by
            obtain ⟨xs, e1, e2, e3⟩ := A.tm p l e
            exact ⟨xs, (upd_ne (ne p _ e3)).trans e1, e2, e3⟩
          mu := fun b mo e => (A.mu b mo e).mono (Same.refl F) fun q u e1 e2 => ⟨(upd_ne (ne q _ e2)).trans e1, e2⟩
          len := A.len
          sl := fun j sv e => by
            obtain ⟨v, e1, r⟩ := A.sl j sv e
            exact ⟨v, e1, r.mono (Same.refl F) fun q xs e1 e2 => ⟨(upd_ne (ne q _ e2)).trans e1, e2⟩⟩ }
end
/-! # sorted({.. for .. in ..}) of ints -/
def compI (gd : PTG) (tt : PTT) (te : PTE) (ρ : Rho) : List D → List Int → Mm → (List Int → Mm → Prop) → Prop
  | [], acc, M, q => q acc M
  | x :: r, acc, M, q => gd x ρ fun ρ' => tt w0 ρ' M fun b M1 => if b = true then te w0 ρ' M1 fun y M2 => ∃ k : Int, y = .int k ∧ compI gd tt te ρ r (acc ++ [k]) M2 q else compI gd tt te ρ r acc M1 q
def dSortSet (vs : List Nat) (pl : PTA) (gd : PTG) (tt : PTT) (te : PTE) : PTA := fun w ρ M q => okW ρ vs = true ∧ pl w ρ M fun ds M1 => ds.length < 64 ∧ compI gd tt te (uns ρ vs) ds [] M1 fun ns M2 =>
  ∀ ms : List Int, ms.Pairwise (· < ·) → (∀ k, k ∈ ms ↔ k ∈ ns) → ms.length < 64 → q (ms.map .int) M2
theorem compI_at {gd : PTG} {tt : PTT} {te : PTE} {ρ : Rho} {ds : List D} {acc : List Int} {M : Mm} {q : List Int → Mm → Prop} {i : Nat} {d : D} (h : ds[i]? = some d) (k : compI gd tt te ρ (ds.drop i) acc M q) :
    gd d ρ fun ρ' => tt w0 ρ' M fun b M1 => if b = true then te w0 ρ' M1 fun y M2 => ∃ k : Int, y = .int k ∧ compI gd tt te ρ (ds.drop (i + 1)) (acc ++ [k]) M2 q else compI gd tt te ρ (ds.drop (i + 1)) acc M1 q := by
  obtain ⟨hi, e⟩ := List.getElem?_eq_some_iff.mp h
  rw [List.drop_eq_getElem_cons hi, e] at k
  exact k
theorem memS_app {acc : List Int} {k : Int} : (fun j : Int => decide (j ∈ acc) || decide (j = k)) = fun j => decide (j ∈ acc ++ [k]) := by
  funext j
  rw [← Bool.decide_or]
  exact decide_eq_decide.mpr (by simp)
section
variable {X : Cx} {W : WX} {elt tg iter : Expr} {ifs : List Expr} {scope : Scope} {own : List (Str × Nat)} {pos p pos2 : Pos} {pl : PTA} {gd : PTG} {tt : PTT} {te : PTE} {is vs : List Nat}
theorem scI_run {K : PySem.W.Frag} {w : World} (hsub : ∀ j ∈ is, j ∈ vs) {σ : L2.St} {H : Hp} {Q : VK} (h : realL K W (dSortSet vs pl gd tt te) σ H Q) :
    tScI w (realI K W pl) (realG K is gd) (realT K W0 tt) (real K W0 te) vs σ H fun x H1 => rSortedSet w [x] H1 Q := by
  obtain ⟨g, ρ, M, F, O, q, ww, A, ⟨hW, pr⟩, hw, k⟩ := h
  refine ⟨g, ρ, M, F, O, _, ww, A, pr, hw, fun J H1 F1 O1 M1 ds A1 s1 wk q1 => fun D hD => ?_⟩
  obtain ⟨hlen, q1⟩ := q1
  have hF := A1.f0 hD
  have hO := A1.o0 hD
  have h0 := A1.g0 hD
  have A2 := (A1.laid (o := SetO w D (fun _ => false) 0) hD).wiped vs
  refine ⟨fun i m H' => ∃ M' F' O' acc n, Ab K g (wipe σ vs) H' (uns ρ vs) M' F' O' ∧ Same F1 F' ∧ i ≤ ds.length ∧ m = ds.length - i ∧ H' D = some (SetO w D (fun j => decide (j ∈ acc)) n) ∧ n ≤ i ∧ F' D = none ∧ O' D = none ∧ compI gd tt te (uns ρ vs) (ds.drop i) acc M' _,
    ⟨ds.length, M1, F1, O1, [], 0, A2, Same.refl F1, Nat.zero_le _, rfl, by
      have e : (fun j : Int => decide (j ∈ ([] : List Int))) = fun _ => false := by funext j; exact decide_eq_false (by simp)
      rw [e]; exact upd_same, Nat.le_refl _, hF, hO, q1⟩, ?_⟩
  rintro i m H2 ⟨M2, F2, O2, acc, n, A3, s3, hi2, rfl, e3, hn, f3, o3, q2⟩
  by_cases hlt : i < ds.length
  · have B := A3.here
    refine .inr ⟨wk.go _ _ _ _ _ _ _ i B s3 hlt, fun x H3 y3 => ?_⟩
    have hd := List.getElem?_eq_getElem hlt
    obtain ⟨F3, B4, s4, r4⟩ := wk.yl _ _ _ _ _ _ _ i x H3 _ B s3 y3 hd
    refine ⟨_, uns ρ vs, M2, F3, O2, _, _, B4, r4, compI_at hd q2, fun σ5 ρ5 B5 n5 l5 q5 => ?_⟩
    have ew : wipe σ5 vs = wipe σ vs := wipe_eq (by rw [l5, wipe_length]) fun j hj => (n5 j fun z => hj (hsub j z)).1
    have back : ∀ {H' : Hp} {M' : Mm} {F' : Hp} {O' : Own}, Ab K g σ5 H' ρ5 M' F' O' → Ab K g (wipe σ vs) H' (uns ρ vs) M' F' O' := fun {H' M' F' O'} Z => by
      have Z2 := Z.wiped vs
      rw [ew] at Z2
      refine Z2.congr (by rw [uns_len, uns_len, B5.len, l5, wipe_length, ← A1.len]) fun j => ?_
      by_cases hj : j ∈ vs
      · rw [gt_uns.2 hj, gt_uns.2 hj]
      · rw [gt_uns.1 hj, gt_uns.1 hj]
        have z := (n5 j fun z => hj (hsub j z)).2
        rw [gt_uns.1 hj] at z
        exact z.symm
    refine ⟨ew, _, ρ5, M2, F3, O2, _, w0, B5, q5, fun _ _ _ _ _ _ _ _ _ _ _ _ z => z, fun b H6 F6 O6 M6 B6 s6 q6 => ?_⟩
    cases b with
    | false =>
      rw [if_neg Bool.false_ne_true] at q6 ⊢
      obtain ⟨z1, z2, z3⟩ := kept_at A3 e3 f3 o3 B6
      exact ⟨ds.length - (i + 1), by omega, M6, F6, O6, acc, n, back (A3.there B6), (s3.trans s4).trans s6, hlt, rfl, z1, Nat.le_succ_of_le hn, z2, z3, q6⟩
    | true =>
      rw [if_pos rfl] at q6 ⊢
      refine ⟨_, ρ5, M6, F6, O6, _, w0, B6, q6, fun _ _ _ _ _ _ _ _ _ _ _ _ z => z, fun v H7 F7 O7 M7 d B7 s7 r7 q7 => ?_⟩
      obtain ⟨kk, rfl, q7⟩ := q7
      obtain ⟨z1, z2, z3⟩ := kept_at A3 e3 f3 o3 B7
      refine ⟨kk, _, n, r7, z1, ?_, ds.length - (i + 1), by omega, M7, F7, O7, acc ++ [kk], (if decide (kk ∈ acc) = true then n else n + 1), back ((A3.there B7).other z2 z3 h0), ((s3.trans s4).trans s6).trans s7, hlt, rfl, ?_, ?_, z2, z3, q7⟩
      · have : (64 : Nat) < scanBound := by decide
        omega
      · rw [← memS_app]; exact upd_same
      · split <;> omega
  · have e : i = ds.length := by omega
    subst e
    rw [List.drop_length] at q2
    refine .inl ⟨wk.sp _ _ _ _ _ _ _ A3 s3, ?_⟩
    have A4 := A3.unwiped A1 s3 hW
    refine ⟨D, _, n, rfl, e3, by omega, fun ns a h1 h2 h3 h4 => ?_⟩
    have q3 := q2 ns h1 (fun j => (h2 j).trans decide_eq_true_iff) (by omega)
    exact k a (ns.map V.int) _ F2 O2 M2 _ (A4.laid h4) (s1.trans s3) upd_same (RpL.of_ints ns) (A4.f0 h4) (A4.o0 h4) (A4.g0 h4) q3
theorem dl_sortSet (hc : X.calm = true) (hN : X.N.Nodup) (hi : DI X W tg iter pl) (ok : BlkOk X.N X.env.scope scope own)
    (hg : ∀ (s : Shared) (H : Hp) (C : Addr) (cs : List (Str × Addr)) (fp : List Addr), DG (X.blk s H scope (compEnvC scope cs C X.env) fp) tg is gd)
    (ht : ∀ (s : Shared) (H : Hp) (C : Addr) (cs : List (Str × Addr)) (fp : List Addr), DTs (X.blk s H scope (compEnvC scope cs C X.env) fp) W0 ifs tt)
    (he : ∀ (s : Shared) (H : Hp) (C : Addr) (cs : List (Str × Addr)) (fp : List Addr), DE (X.blk s H scope (compEnvC scope cs C X.env) fp) W0 elt te)
    (hgl : Gl X "sorted") (hm : X.mg "sorted" = none) (hsub : ∀ j ∈ is, j ∈ own.map (·.2) := by decide)
    (hs : ∀ x, foldedSetIterable iter X.env x = pure x := by intro _; rfl)
    (hst : starEach [Expr.SetComp elt [⟨tg, iter, ifs, 0⟩] scope pos] X.env = (false, eval (.SetComp elt [⟨tg, iter, ifs, 0⟩] scope pos) X.env) :: starEach [] X.env := by rfl) (hpl : (backTo pos2 (starEach [] X.env)).any (·.1) = false := by rfl) :
    DL X W (.Call (.Name "sorted" p) [.SetComp elt [⟨tg, iter, ifs, 0⟩] scope pos] [] pos2) (dSortSet (own.map (·.2)) pl gd tt te) :=
  pe_imp (pe_callB (cr_sortedSet hc) hgl hm (by decide +kernel) (pa_cons (pe_scI hc hN hi ok hg ht he hs) pa_nil hst) (by decide) (by decide) hst hpl) fun σ H Q h => scI_run hsub h
end
end Px

set_option Elab.async false
set_option linter.all false
set_option maxRecDepth 100000
namespace Px
open PySem PySem.Spec PyProof.Rows L2
/-! # lambdas -/
abbrev lamQ (X : Cx) : Str := X.env.qual ++ "<lambda>"
abbrev lamO (X : Cx) (prm : Arguments) (bd : Expr) (scp : Scope) (pm : Value) (c' : Addr) (ctv : Value) : Obj := PySem.W.kla_obj "<lambda>" (lamQ X) prm bd scp (cloFrom X.env.cells scp.names []) pm c' ctv
/-- a lambda's object is made: its code object stood in the maker's table, or is put there -/
theorem lam_new {X : Cx} {pins : List (Addr × Obj)} {σ : L2.St} {H : Hp} {s : Shared} {c P : Addr} {ps : Array Value} {prm : Arguments} {bd : Expr} {scp : Scope} {lp : Pos} {E Q : Value → Shared → Prop}
    (I : Inv X pins σ H s) (TB : LamX.TabB X.base X.mg c P) (hc : X.env.code = .ref c) (hP : H P = some (.tbl ps)) (ht : TriplesOk ps.toList)
    (free : ∀ y ∈ scp.names, y.2 = .free → ∃ c, X.env.cells.lookup y.1 = some c) (hdef : defaultsOf prm X.env = ([], [])) (refs : ∀ cv, codeAmong lp ps.toList = some cv → ∃ c', cv = .ref c')
    (old : ∀ (f c' : Addr) (pm ctv : Value) (s' : Shared), codeAmong lp ps.toList = some (.ref c') → Inv X pins σ H s' → s'.heap.get? f = some (lamO X prm bd scp pm c' ctv) → H f = none → f ∉ frs X.stack → Q (.ref f) s')
    (new : ∀ (f c' : Addr) (pm ctv : Value) (s' : Shared) (ps' : Array Value), H c' = none → TriplesOk ps'.toList → (∀ p cv, codeAmong p ps'.toList = some cv → codeAmong p ps.toList = some cv ∨ cv = .ref c') →
      Inv X pins σ (upd (upd H P (.tbl ps')) c' (LamX.CodeO c' (lamQ X))) s' → s'.heap.get? f = some (lamO X prm bd scp pm c' ctv) → upd (upd H P (.tbl ps')) c' (LamX.CodeO c' (lamQ X)) f = none → f ∉ frs X.stack → Q (.ref f) s') :
    wpAny (model X.prog X.w) X.A (eval (.Lambda prm bd scp lp) X.env) Q E s := by
  have hB : s.heap.BuiltinsAt X.mg P := TB.bm.keeps I.bk
  have atP : s.heap.get? P = some { cls := .none, data := .fields ps } := I.hok P _ hP
  have far : ∀ f, s.heap.objs.size ≤ f → f ∉ frs X.stack := fun f hf z => (List.mem_cons.mp (I.stkSub _ z)).elim
    (fun e => Nat.lt_irrefl _ (Nat.lt_of_lt_of_le (e ▸ I.lt) hf)) (fun e => I.nofs hf e)
  refine PySem.W.kla_eval hdef ?_
  cases hf : codeAmong lp ps.toList with
  | some cv =>
    obtain ⟨c', rfl⟩ := refs cv hf
    refine PySem.W.kla_makeFunctionHit (c := c) (ps := ps) (closure_ok free) I.ok.glob (I.mod.glob.keeps I.bk) hc (TB.code.keeps I.bk) atP ht hf hB fun ctv h2 tk keep sz => ?_
    exact old _ c' _ ctv _ hf (I.kept fun b u e => Heap.get?_push_of_some _ (keep b u e)) (Heap.get?_push_size _ rfl) (I.hok.fresh sz) (far _ sz)
  | none =>
    refine PySem.W.kla_makeFunction (c := c) (ps := ps) (closure_ok free) I.ok.glob (I.mod.glob.keeps I.bk) hc (TB.code.keeps I.bk) atP ht hf TB.gP hB fun c' ctv h2 tk ext ge lt rec tab => ?_
    obtain ⟨_, oc, us, t, e0, e1, e2, e3⟩ := rec
    cases e0
    have sz : s.heap.objs.size ≤ h2.objs.size := Nat.le_of_lt (Nat.lt_of_le_of_lt ge lt)
    have hc' : H c' = none := I.hok.fresh ge
    have J := LamX.inv_table (t' := tk) (more := #[rawInt lp.line, rawInt lp.col, .ref c']) (h' := h2.push (lamO X prm bd scp ((X.mg "__name__").getD .none) c' ctv)) I hP (fun b u n e => Heap.get?_push_of_some _ (ext b u n e)) (Heap.get?_push_of_some _ tab) ge
      ⟨oc, us, t, Heap.get?_push_of_some _ e1, e2, e3⟩
    have el : (ps ++ #[rawInt lp.line, rawInt lp.col, .ref c']).toList = ps.toList ++ [rawInt lp.line, rawInt lp.col, .ref c'] := by simp
    refine new _ c' _ ctv _ (ps ++ #[rawInt lp.line, rawInt lp.col, .ref c']) hc' ?_ ?_ J (Heap.get?_push_size _ rfl) ?_ (far _ sz)
    · rw [el]; exact PySem.TriplesOk_snoc _ _ _ _ ht
    · intro p cv h; rw [el] at h; exact LamX.among_app _ ht h
    · rw [upd_ne (Nat.ne_of_gt lt), upd_ne (Nat.ne_of_gt (Nat.lt_of_lt_of_le (Heap.lt_size atP) sz))]
      exact I.hok.fresh sz
/-- x(), where x holds a lambda that the caller made: X is the caller, at s -/
theorem pe_lam {X : Cx} {pins : List (Addr × Obj)} {σ : L2.St} {H : Hp} {s : Shared} {CXg : CXT} {Eg : XK} {Ng : List Str} {qg : Str} {sg : Scope} {g f c' : Addr} {cdg pm ctv : Value} {prm : Arguments} {bd : Expr} {scp : Scope} {k i : Nat} {a : Str}
    {pn : List (Addr × Obj)} {xe : Value → Shared → Prop} {W : WX} {tb : XK → TE} {p1 p2 : Pos}
    (I : Inv X pins σ H s) (L : LamX.LamS X.env.scope scp) (hf : s.heap.get? f = some (lamO X prm bd scp pm c' ctv)) (hn : H f = none) (hfr : f ∉ frs X.stack)
    (hb : bindArgs (PySem.W.kla_fn "<lambda>" (lamQ X) prm bd scp (cloFrom X.env.cells scp.names []) pm (.ref c') ctv) ⟨[], []⟩ = pure [])
    (tk : Takes ((cxOf CXg X.prog X.w X.K X.mg X.base Ng qg sg g cdg X.A X.stack s H Eg).tr pn xe) W) (hr : Room (k + 1) (X.A.deeper (envOfC qg sg s.heap.objs.size g cdg))) (hG : X.A.guards = some [])
    (hbody : ∀ (E : XK) (A : Around) (outer : List Env) (s : Shared) (H : Hp), Room k (A.deeper (LamX.lamEnv X scp s.heap.objs.size f c')) → A.guards = some [] → PE (LamX.lamCx X A outer s H E scp f c') bd (tb E))
    (hN : Ng[i]? = some a) (hv : Vis sg a) (hd : (a == ("__debug__" : Str)) = false) (hcd : (a == ("__classdict__" : Str)) = false) :
    PE ((cxOf CXg X.prog X.w X.K X.mg X.base Ng qg sg g cdg X.A X.stack s H Eg).tr pn xe) (.Call (.Name a p1) [] [] p2)
      (fun σZ HZ Q => σZ[i]? = some (some (.ref f)) ∧ HZ c' = some (LamX.CodeO c' (lamQ X)) ∧ tb (fun cls d H' => W cls d σZ H') σ HZ Q) := by
  constructor
  intro pz sz σZ HZ Q IZ ⟨h1, h2, h3⟩
  refine wpAny_Call_Name_kw (thn ((pe_var (pos := p1) (i := i) hN hv hd hcd).run pz sz σZ HZ (fun v H1 => v = .ref f ∧ H1 = HZ) IZ ⟨.ref f, h1, rfl, rfl⟩) ?_)
  rintro u s1 ⟨v, H1, J, rv, rfl, rfl⟩
  obtain rfl : u = Value.ref f := rv
  have here : s1.heap.get? f = some (lamO X prm bd scp pm c' ctv) := J.base.keep f _ hf hn hfr (fun z => nomatch (show f ∈ ([] : List Addr) from z))
  have moved : Un (frs X.stack) [] H H1 s.heap s1.heap := J.base
  obtain ⟨⟨oc, us, t, q1, q2, q3⟩, _, _⟩ := J.hok c' _ h2
  refine PySem.W.callWith_F0 ⟨_, _, _, _, here⟩ (wpAny_call (codeAny_mono (R := CR (L2.CX X.prog X.w) (envOfC qg sg s.heap.objs.size g cdg :: X.stack) X.prog X.w H1 s1 Q fun cls d H' => W cls d σZ H') ?_ ?_))
  · show codeAny (model X.prog X.w) (X.A.deeper (envOfC qg sg s.heap.objs.size g cdg)) (.call (.ref f) ⟨[], []⟩) _ s1
    refine PySem.W.kla_callFunE hr.depth here rfl L.co L.gen rfl ⟨c', oc, us, t, rfl, q1, q2, q3⟩ ?_
    rw [hb]
    refine wpAny_pure (wpAny_newFunctionEnv (fun y hy => (L.own y hy).2) (fun y hy => absurd hy (by simp)) (fun h₁ hns hsb => ⟨J.nolimit.fresh _ hsb, ?_⟩) L.kind)
    have kp : ∀ b o, s1.heap.get? b = some o → h₁.get? b = some o := fun b o e => hsb.extBut b o (Nat.ne_of_lt (Heap.lt_size e)) (Heap.get?_push_of_some _ e)
    have JL := LamX.lam_start2 (A := X.A.deeper (envOfC qg sg s.heap.objs.size g cdg)) (outer := envOfC qg sg s.heap.objs.size g cdg :: X.stack) (E := fun cls d H' => W cls d σZ H') (f := f) (c' := c') (h₁ := h₁) (tk := s1.toks + ([] : List (Str × Value)).length) I L J.env0 hr.hd moved hns kp
    refine PySem.W.kla_codeExpr (wpAny_mono ((hbody _ _ _ s1 H1 (hr.deeper _) hG).run [] _ _ H1 Q JL h3) ?_ fun _ _ z => z)
    rintro v s' ⟨w', H', J', rv, q⟩
    exact ⟨w', H', J'.os, J'.bare, J'.base, J'.hok, rv, q⟩
  · intro r s' hq
    match r, hq with
    | .error e, hq => exact tk e s' (XE.of_call J (fun _ _ _ h => h) hq)
    | .ok (.ret u), hq => exact J.after hq
    | .ok .next, hq => exact hq.elim
    | .ok .brk, hq => exact hq.elim
    | .ok .cont, hq => exact hq.elim
end Px

set_option Elab.async false
set_option linter.all false
set_option maxRecDepth 100000
namespace Px
open PySem PySem.Spec PyProof.Rows L2
/-! ## what a lambda sees of its maker's slots -/
def valS : Option Sv → Option Sv
  | some (.val d) => some (.val d)
  | _ => none
def valsR (ρ : Rho) : Rho := ρ.map valS
def dsOf : Rho → L2.St → List D
  | r :: ρ, s :: σ => (match r with | some (.val d) => d | _ => .raw (s.getD .non)) :: dsOf ρ σ
  | _, _ => []
def xsOf (σ : L2.St) : List V := σ.map fun o => o.getD .non
theorem gt_valsR : ∀ (ρ : Rho) (i : Nat) {sv : Sv}, gt (valsR ρ) i = some sv → ∃ d, sv = .val d ∧ gt ρ i = some (.val d)
  | [], _, _, h => by cases h
  | r :: _, 0, sv, h => by
    have h : valS r = some sv := h
    match r, h with
    | some (.val d), h => exact ⟨d, (Option.some.inj h).symm, rfl⟩
    | some (.own l), h => cases h
    | none, h => cases h
  | _ :: ρ, i + 1, sv, h => gt_valsR ρ i (sv := sv) h
section
variable {K : PySem.W.Frag} {F F' : Hp}
theorem dsOf_rp : ∀ (ρ : Rho) (σ : L2.St), ρ.length = σ.length → (∀ i d, gt ρ i = some (.val d) → ∃ v, σ[i]? = some (some v) ∧ Rp K F d v) → RpL K F (dsOf ρ σ) (xsOf σ)
  | [], [], _, _ => rfl
  | r :: ρ, s :: σ, hl, h => by
    refine ⟨s.getD .non, xsOf σ, rfl, ?_, dsOf_rp ρ σ (by simpa using hl) fun i d e => ?_⟩
    · match r, h with
      | some (.val d), h =>
        obtain ⟨v, e1, e2⟩ := h 0 d rfl
        have e1 : some s = some (some v) := e1
        cases e1
        exact e2
      | some (.own l), _ => exact rfl
      | none, _ => exact rfl
    · obtain ⟨v, e1, e2⟩ := h (i + 1) d e
      exact ⟨v, by simpa using e1, e2⟩
theorem dsOf_back : ∀ (ρ : Rho) (σ : L2.St), ρ.length = σ.length → RpL K F' (dsOf ρ σ) (xsOf σ) → ∀ i d, gt ρ i = some (.val d) → (∃ v, σ[i]? = some (some v)) → ∃ v, σ[i]? = some (some v) ∧ Rp K F' d v
  | [], [], _, _, _, _, e, _ => by cases e
  | r :: ρ, s :: σ, _, ⟨x, t, e1, h1, h2⟩, 0, d, e, ⟨v, hv⟩ => by
    have e : r = some (.val d) := e
    subst e
    have hv : s = some v := Option.some.inj hv
    subst hv
    have e1 : v :: xsOf σ = x :: t := e1
    cases e1
    exact ⟨_, rfl, h1⟩
  | r :: ρ, s :: σ, hl, ⟨x, t, e1, h1, h2⟩, i + 1, d, e, ⟨v, hv⟩ => by
    have e1 : s.getD .non :: xsOf σ = x :: t := e1
    cases e1
    obtain ⟨v', a1, a2⟩ := dsOf_back ρ σ (by simpa using hl) h2 i d e ⟨v, by simpa using hv⟩
    exact ⟨v', by simpa using a1, a2⟩
theorem Wd.enterX {g : Gh} {H : Hp} {M : Mm} {O : Own} {σ : L2.St} {ρ : Rho} (A : Wd K g H M F O) (hl : ρ.length = σ.length) (hs : ∀ i d, gt ρ i = some (.val d) → ∃ v, σ[i]? = some (some v) ∧ Rp K F d v) :
    Ab K ⟨H, F, fun a => ∃ m, O a = some (.obj m), []⟩ σ H (valsR ρ) M F (objs O) :=
  { sub := A.sub, ext0 := Same.refl F, new := fun a o e => .inl e, frm := fun a o e _ => e, thr := fun a o e => ⟨o, e⟩
    liv := fun a o e => by
      obtain ⟨m, rfl, e1⟩ := objs_of e
      obtain ⟨h1, h2, _⟩ := A.liv a _ e1
      exact ⟨h1, h2, .inl ⟨m, e1⟩⟩
    slo := fun a o e n => by
      obtain ⟨m, rfl, e1⟩ := objs_of e
      exact absurd rfl (n m)
    tm := fun p l e => absurd e (by simp)
    mu := fun a mo e => (A.mu a mo e).mono (Same.refl F) fun q u e1 e2 => ⟨e1, objs_to e2⟩
    len := by unfold valsR; rw [List.length_map]; exact hl
    sl := fun i sv e => by
      obtain ⟨d, rfl, e1⟩ := gt_valsR ρ i e
      exact hs i d e1 }
end
/-! ## readings of calls with a lambda -/
/-- what a call without arguments does, told without slots -/
abbrev PC := PX → Mm → PQ → Prop
def compL (p : PTE) (ρ : Rho) : PC := fun e M q => p (fun cls fs _ M' => e cls fs M') (valsR ρ) M q
def actOf (c : PC) (i : Nat) (cl : D) : PTE := fun w ρ M k => gt ρ i = some (.val cl) ∧ ∃ (e : PX) (q : PQ), c e M q ∧ (∀ cls fs M', e cls fs M' → w cls fs ρ M') ∧ ∀ d M', q d M' → k d M'
def actIn (Z : Cx) (a : Str) (c : PC) (cl : D) : Prop := ∀ (pn : List (Addr × Obj)) (xe : Value → Shared → Prop) (W : WX) (p1 p2 : Pos), Takes (Z.tr pn xe) W → DE (Z.tr pn xe) W (.Call (.Name a p1) [] [] p2) (actOf c 0 cl)
def toSpC (K : PySem.W.Frag) (TT : PC → PC) (c : PC) (cl : D) (v : V) : Hp → VK → XK → Prop := fun H Q E => ∃ g F M O q e, Wd K g H M F O ∧ Rp K F cl v ∧ TT c e M q ∧
  (∀ v H' F' O' M' d, Aft K H F O H' M' F' O' → Rp K F' d v → q d M' → Q v H') ∧
  (∀ cls dd H' F' O' M' fs, Aft K H F O H' M' F' O' → ExOk K F' dd fs → e cls fs M' → E cls dd H')
section
variable (P : Program) (w : World) (K : PySem.W.Frag) (mg : Str → Option Value) (base : Heap)
/-- a def that is given a lambda, and calls it -/
structure FnC (j : Nat) (f : Addr) (fd : FuncData) (a qual : Str) (stm : Stmt) (N : List Str) (TT : PC → PC) : Prop where
  run : ∀ (A : Around) (outer : List Env) (s : Shared) (H : Hp) (u : Value) (cl : D) (v : V) (c : PC) (Q : VK) (E : XK), Room (j + 1) A → A.guards = some [] → Env0 P w K mg base A outer s H → BindsTo s fd ⟨[u], []⟩ [(a, u)] → RelV v u →
    (∀ cdv, Room j (A.deeper (envOfC qual (defScope stm) s.heap.objs.size f cdv)) → actIn (cxOf (L2.CX P w) P w K mg base N qual (defScope stm) f cdv A outer s H E) a c cl) → toSpC K TT c cl v H Q E →
    codeAny (model P w) A (.call (.ref f) ⟨[u], []⟩) (CR (L2.CX P w) outer P w H s Q E) s
end
def ShowsC (TT : PC → PC) (n : Nat) (rd : PTE → PTS) : Prop := ∀ c cl M q e, TT c e M q →
  rd (actOf c 0 cl) (fun cls fs _ M' => ∃ M2, MLe M2 M' ∧ e cls fs M2) { nx := fun _ M' => ∃ M2, MLe M2 M' ∧ q .non M2, rt := fun d M' => ∃ M2, MLe M2 M' ∧ q d M2 } (startR n [cl]) M
section
variable {P : Program} {w : World} {K : PySem.W.Frag} {mg : Str → Option Value} {base : Heap} {j : Nat} {f : Addr} {fd : FuncData} {N : List Str}
theorem Fun.cok {x qual a : Str} {stm : Stmt} {TT : PC → PC} {rd : PTE → PTS} (Fn : L2.Fun K x qual stm f fd) (S : FnScope N [a] (defScope stm)) (hs : ShowsC TT N.length rd)
    (hbody : ∀ (cdv : Value) (A : Around) (outer : List Env) (s : Shared) (H : Hp) (E : XK) (c : PC) (cl : D), Room j (A.deeper (envOfC qual (defScope stm) s.heap.objs.size f cdv)) → A.guards = some [] →
      actIn (cxOf (L2.CX P w) P w K mg base N qual (defScope stm) f cdv A outer s H E) a c cl → DSs (cxOf (L2.CX P w) P w K mg base N qual (defScope stm) f cdv A outer s H E) (WE E) (defBody stm) (rd (actOf c 0 cl))) :
    FnC P w K mg base j f fd a qual stm N TT := by
  obtain ⟨oc, od, kV, doc, pm, an, cdv, ct, osl, rfl, lk, hcd⟩ := Fn.ex
  constructor
  intro A outer s H u cl v c Q E hr hG e0 hb rv act hsp
  refine LamX.run_ofS (CX := L2.CX P w) (N := N) (ps := [a]) (us := [u]) (vs := [v]) lk hcd S hr e0 hb (.cons rv .nil) rfl fun hr' => ⟨_, hbody cdv A outer s H E c cl hr' hG (act cdv hr'), ?_⟩
  obtain ⟨g, F, M, O, q, e, W0, rc, ht, hQ, hE⟩ := hsp
  have rp : RpL K F [cl] [v] := ⟨v, [], rfl, rc, rfl⟩
  refine ⟨_, _, _, _, _, _, _, W0.enter (N := N) rp, hs c cl M q e ht, ?_, ?_, ?_, ?_, ?_, ?_⟩
  · intro cls dd σ' H' ρ' M' F' O' fs A2 s2 x2 ⟨M2, h1, h2⟩
    exact hE cls dd H' F' _ M2 fs (A2.leave h1) x2 h2
  · intro σ' H' ρ' M' F' O' A2 s2 ⟨M2, h1, h2⟩
    exact hQ .non H' F' _ M2 .non (A2.leave h1) rfl h2
  · intro v σ' H' ρ' M' F' O' d A2 s2 r2 ⟨M2, h1, h2⟩
    exact hQ v H' F' _ M2 d (A2.leave h1) r2 h2
  · intro σ' H' ρ' M' F' O' A2 s2 z; exact z.elim
  · intro σ' H' ρ' M' F' O' A2 s2 z; exact z.elim
  · intro a xs σ' H' ρ' M' F' O' ds A2 s2 e1 e2 e3 e4 e5 z; exact z.elim
end
/-! ## the lambda is called -/
section
variable {X : Cx} {pins : List (Addr × Obj)} {σ : L2.St} {H : Hp} {s : Shared} {ρ : Rho} {g : Addr} {cdg : Value} {qg : Str} {sg : Scope} {Ng : List Str} {Eg : XK} {k : Nat}
theorem de_act {CXg : CXT} {f c' : Addr} {pm ctv : Value} {prm : Arguments} {bd : Expr} {scp : Scope} {a : Str} {pb : PTE} (I : Inv X pins σ H s) (L : LamX.LamS X.env.scope scp) (hf : s.heap.get? f = some (lamO X prm bd scp pm c' ctv)) (hn : H f = none) (hfr : f ∉ frs X.stack)
    (hb : bindArgs (PySem.W.kla_fn "<lambda>" (lamQ X) prm bd scp (cloFrom X.env.cells scp.names []) pm (.ref c') ctv) ⟨[], []⟩ = pure []) (hr : Room (k + 1) (X.A.deeper (envOfC qg sg s.heap.objs.size g cdg))) (hG : X.A.guards = some [])
    (hl : ρ.length = σ.length) (hsl : ∀ i d, gt ρ i = some (.val d) → ∃ v, σ[i]? = some (some v))
    (hbody : ∀ (E : XK) (A : Around) (outer : List Env) (s : Shared) (H : Hp), Room k (A.deeper (LamX.lamEnv X scp s.heap.objs.size f c')) → A.guards = some [] → DE (LamX.lamCx X A outer s H E scp f c') (WE E) bd pb)
    (hN : Ng[0]? = some a) (hv : Vis sg a) (hd : (a == ("__debug__" : Str)) = false) (hcd : (a == ("__classdict__" : Str)) = false) :
    actIn (cxOf CXg X.prog X.w X.K X.mg X.base Ng qg sg g cdg X.A X.stack s H Eg) a (compL pb ρ) (.clo f c' (lamQ X) (xsOf σ) (dsOf ρ σ)) := by
  intro pn xe W p1 p2 tk
  refine pe_imp (pe_lam (W := W) (i := 0) (tb := fun E => real X.K (WE E) pb) I L hf hn hfr hb tk hr hG (fun E A outer s H r1 g1 => hbody E A outer s H r1 g1) hN hv hd hcd) ?_
  rintro σZ HZ Q ⟨gZ, ρZ, MZ, FZ, OZ, q, w, AZ, ⟨h0, eC, qC, hc, hcE, hcQ⟩, hw, hk⟩
  obtain ⟨v, e1, rfl, e2, e3⟩ := AZ.sl 0 _ h0
  refine ⟨e1, AZ.sub _ _ e2, ?_⟩
  have AL := AZ.toWd.enterX hl fun i d e => dsOf_back ρ σ hl e3 i d e (hsl i d e)
  refine ⟨_, _, _, _, _, qC, _, AL, hc, ?_, ?_⟩
  · intro cls dd σ' H' ρ' M' F' O' fs A2 s2 x2 hh
    obtain ⟨O2, A3, s3⟩ := AZ.after (A2.leave (MLe.refl M'))
    exact hw cls dd σZ H' ρZ M' F' O2 fs A3 s3 x2 (hcE _ _ _ hh)
  · intro v H' F' O' M' d A2 s2 r2 q2
    obtain ⟨O2, A3, s3⟩ := AZ.after (A2.leave (MLe.refl M'))
    exact hk v H' F' O2 M' d A3 s3 r2 (hcQ _ _ q2)
end
/-! ## x(lambda: e) -/
def dLam (P : Addr) (qn : Str) (TT : PC → PC) (pb : PTE) : PTE := fun w ρ M q => M P = some (.tab qn) ∧ TT (compL pb ρ) (fun cls fs M' => w cls fs ρ M') M q
section
variable {X : Cx} {W : WX} {k : Nat} {g c P : Addr} {fd : FuncData} {a x qual qn : Str} {stm : Stmt} {N : List Str} {TT : PC → PC} {prm : Arguments} {bd : Expr} {scp : Scope} {lp p pos : Pos} {pb : PTE}
theorem de_lamcall (Fg : FnC X.prog X.w X.K X.mg X.base (k + 1) g fd a qual stm N TT) (hr : Room (k + 2) X.A) (hG : X.A.guards = some []) (hg : Gl X x) (hm : X.mg x = some (.ref g)) (hk : PySem.W.keepIn X.K (.ref g) = true) (hb : Binds X.K fd [a] [])
    (tk : Takes X W) (TB : LamX.TabB X.base X.mg c P) (hcode : X.env.code = .ref c) (hqn : lamQ X = qn) (L : LamX.LamS X.env.scope scp) (hdef : defaultsOf prm X.env = ([], []))
    (hbind : ∀ (q : Str) (cl : List (Str × Addr)) (pm cv ctv : Value), bindArgs (PySem.W.kla_fn "<lambda>" q prm bd scp cl pm cv ctv) ⟨[], []⟩ = pure [])
    (hbody : ∀ (E : XK) (A : Around) (outer : List Env) (s : Shared) (H : Hp) (f c' : Addr), Room k (A.deeper (LamX.lamEnv X scp s.heap.objs.size f c')) → A.guards = some [] → DE (LamX.lamCx X A outer s H E scp f c') (WE E) bd pb)
    (hN : N[0]? = some a := by rfl) (hv : Vis (defScope stm) a := by exact Or.inl rfl) (hdb : (x == ("__debug__" : Str)) = false := by decide) (hd : (a == ("__debug__" : Str)) = false := by decide) (hcd : (a == ("__classdict__" : Str)) = false := by decide) :
    DE X W (.Call (.Name x p) [.Lambda prm bd scp lp] [] pos) (dLam P qn TT pb) := by
  subst hqn
  refine ⟨fun pins s σ H Q I ⟨gh, ρ, M, F, O, q, w, A, ⟨hM, hT⟩, hw, hq⟩ => ?_⟩
  obtain ⟨ps, hP, hO, ht, hco⟩ := A.mu P _ hM
  have hco' : ∀ cv, codeAmong lp ps.toList = some cv → ∃ c', cv = .ref c' ∧ F c' = some (LamX.CodeO c' (lamQ X)) := fun cv e => hco lp cv e
  refine wpAny_Call_Name_kw (ld_glob I hg hm ?_ hdb)
  refine PySem.W.callWith_K (h₀ := X.base) I.ok.mod.kin hk ?_ (by rfl) (by rfl)
  show wpAny _ _ (spliced ((false, eval (.Lambda prm bd scp lp) X.env) :: backTo pos (starEach [] X.env))) _ _ s
  -- behind the making
  have go : ∀ (f c' : Addr) (pm ctv : Value) (H1 : Hp) (s' : Shared) (F1 : Hp), Inv X pins σ H1 s' → s'.heap.get? f = some (lamO X prm bd scp pm c' ctv) → H1 f = none → f ∉ frs X.stack → Ab X.K gh σ H1 ρ M F1 O → Same F F1 → F1 c' = some (LamX.CodeO c' (lamQ X)) →
      wpAny (model X.prog X.w) X.A (call (.ref g) [.ref f]) (EP X pins σ Q) X.xe s' := by
    intro f c' pm ctv H1 s' F1 I1 hf hn hfr A1 s1 hc1
    have hsl : ∀ i d, gt ρ i = some (.val d) → ∃ v, σ[i]? = some (some v) ∧ Rp X.K F1 d v := fun i d e => A1.sl i _ e
    have cl := dsOf_rp ρ σ A1.len hsl
    refine wpAny_call (codeAny_mono (Fg.run X.A X.stack s' H1 (.ref f) (.clo f c' (lamQ X) (xsOf σ) (dsOf ρ σ)) (.ref f) (compL pb ρ) Q (fun cls d H' => W cls d σ H') hr hG I1.env0 (hb s' [.ref f] I1.kIn rfl) rfl
      (fun cdv r1 => de_act I1 L hf hn hfr (hbind _ _ _ _ _) r1 hG A1.len (fun i d e => let ⟨v, e1, _⟩ := hsl i d e; ⟨v, e1⟩) (fun E A outer s H r2 g2 => hbody E A outer s H f c' r2 g2) hN hv hd hcd) ?_) ?_)
    · refine ⟨gh, F1, M, O, q, _, A1.toWd, ⟨rfl, hc1, cl⟩, hT, ?_, ?_⟩
      · intro v H' F' O' M' d B rd hq'
        obtain ⟨O2, A2, s2⟩ := A1.after B
        exact hq v H' F' O2 M' d A2 (s1.trans s2) rd hq'
      · intro cls dd H' F' O' M' fs B xk hq'
        obtain ⟨O2, A2, s2⟩ := A1.after B
        exact hw cls dd σ H' ρ M' F' O2 fs A2 (s1.trans s2) xk hq'
    · intro r s2 hq2
      match r, hq2 with
      | .error e, hq2 => exact tk e s2 (XE.of_call I1 (fun _ _ _ h => h) hq2)
      | .ok (.ret u), hq2 => exact I1.after hq2
      | .ok .next, hq2 => exact hq2.elim
      | .ok .brk, hq2 => exact hq2.elim
      | .ok .cont, hq2 => exact hq2.elim
  refine Calls.spliced_cons (lam_new I TB hcode hP ht (L.has I.ok) hdef (fun cv e => let ⟨c', h, _⟩ := hco' cv e; ⟨c', h⟩) ?_ ?_)
  · intro f c' pm ctv s' hca I1 hf hn hfr
    obtain ⟨c2, e2, e3⟩ := hco' _ hca
    cases e2
    exact Calls.spliced_nil ⟨I1.kIn, go f c' pm ctv H s' F I1 hf hn hfr A (Same.refl F) e3⟩
  · intro f c' pm ctv s' ps' nc ht' hin I1 hf hn hfr
    have nP : P ≠ c' := fun z => by rw [z, nc] at hP; cases hP
    have A1 := A.lay (o := LamX.CodeO c' (lamQ X)) nc
    have sF : Same F (upd F c' (LamX.CodeO c' (lamQ X))) := same_new (A.f0 nc)
    have A2 := A1.setMo (o := .tbl ps') (mo' := .tab (lamQ X)) hM hO (by
      refine ⟨ps', upd_same, hO, ht', fun p cv e => ?_⟩
      rcases hin p cv e with e | e
      · obtain ⟨c2, e2, e3⟩ := hco p cv e
        exact ⟨c2, e2, sF _ _ e3⟩
      · exact ⟨c', e, upd_same⟩)
    have eM : updM M P (.tab (lamQ X)) = M := by
      funext b
      unfold updM
      by_cases z : b = P
      · rw [if_pos z, z, hM]
      · rw [if_neg z]
    have eH : upd (upd H c' (LamX.CodeO c' (lamQ X))) P (.tbl ps') = upd (upd H P (.tbl ps')) c' (LamX.CodeO c' (lamQ X)) := by
      funext b
      by_cases z : b = P
      · rw [z, upd_same, upd_ne nP, upd_same]
      · rw [upd_ne z]
        by_cases y : b = c'
        · rw [y, upd_same, upd_same]
        · rw [upd_ne y, upd_ne y, upd_ne z]
    rw [eM, eH] at A2
    exact Calls.spliced_nil ⟨I1.kIn, go f c' pm ctv _ s' _ I1 hf hn hfr A2 sF upd_same⟩
end
end Px

set_option Elab.async false
set_option linter.all false
set_option maxRecDepth 100000
namespace Px
open PySem PySem.Spec PyProof.Rows L2
/-! # try: .. except C as n: .., the exception an object of its own from there on -/
theorem upd_none {H : Hp} {a b : Addr} {o : HO} (n : b ≠ a) (h : H b = none) : upd H a o b = none := by rw [upd_ne n]; exact h
section
variable {X : Cx} {pins : List (Addr × Obj)} {σ : L2.St} {H : Hp} {s sI : Shared} {a : Addr} {cls : Value} {d : Option Addr} {oe : Obj} {vs : Array Value}
theorem exV_ok {P : Program} {w : World} {h : Heap} (e : h.get? a = some oe) (z : Zc cls d oe) (f : oe.data = .fields vs) : ObjOk P w H h a (ExV cls d a) :=
  ⟨⟨oe, vs, e, z, f⟩, ⟨oe, e⟩, fun _ _ ⟨o, v, q, r⟩ k => ⟨o, v, k _ q, r⟩⟩
/-- an object that was not there when sI was is tracked from now on -/
theorem inv_hold (J : Inv X pins σ H sI) (I : Inv X pins σ H s) (hx : X.ex = []) (n : sI.heap.get? a = none) (na : H a = none) (e : s.heap.get? a = some oe) (z : Zc cls d oe) (f : oe.data = .fields vs) : Inv X pins σ (upd H a (ExV cls d a)) s := by
  have ne : ∀ b o, sI.heap.get? b = some o → b ≠ a := fun b o q y => by rw [y, n] at q; cases q
  have n0 : ∀ b o, X.s_0.heap.get? b = some o → b ≠ a := fun b o q => by
    obtain ⟨o', q'⟩ := J.base.there b o q (by rw [hx]; exact fun y => nomatch y)
    exact ne b o' q'
  have nH : ∀ b o, H b = some o → b ≠ a := fun b o q y => by rw [y, na] at q; cases q
  have up : ∀ b o, H b = some o → upd H a (ExV cls d a) b = some o := fun b o q => by rw [upd_ne (nH b o q)]; exact q
  refine ⟨I.ok, I.os, I.bare, ⟨I.base.keep, I.base.slot, fun b o q1 q2 q3 => upd_none (n0 b o q1) (I.base.free b o q1 q2 q3), I.base.there, fun b xs q => up b _ (I.base.tups b xs q), fun b o u q => up b _ (I.base.frzs b o u q), fun b ps q => ?_⟩,
    I.loc, I.cell, upd_none ?_ I.free, fun x c q => upd_none ?_ (I.freeC x c q), fun p hp => ?_, fun b u q => ?_, I.len⟩
  · obtain ⟨m, q'⟩ := I.base.tbls b ps q
    exact ⟨m, up b _ q'⟩
  · obtain ⟨m, ⟨o, es, ep, q, _⟩, _⟩ := J.loc
    exact ne _ _ q
  · obtain ⟨v, o, q', _⟩ := J.cell x c q
    exact ne _ _ q'
  · obtain ⟨q1, q2, q3, q4, q5⟩ := I.pin p hp
    exact ⟨q1, upd_none (ne _ _ (J.pin p hp).1) q2, q3, q4, q5⟩
  · by_cases y : b = a
    · subst y
      rw [upd_same] at q
      cases q
      exact exV_ok e z f
    · rw [upd_ne y] at q
      exact (I.hok b u q).stay (fun c v _ q => q) (fun c q => up c _ q) fun c xs q => up c _ q
theorem inv_suite (I : Inv X pins σ H s) (a : Addr) : Inv (X.suite a (X.pn ++ pins)) [] σ H s :=
  ⟨I.ok.suite _ _, I.os, I.bare, I.base, I.loc, I.cell, I.free, I.freeC, fun p hp => I.pin p (by rw [List.append_nil] at hp; exact hp), I.hok, I.len⟩
theorem inv_unsuite {pn : List (Addr × Obj)} (I : Inv (X.suite a (X.pn ++ pins)) pn σ H s) (ok : X.Ok) : Inv X pins σ H s :=
  ⟨ok, I.os, I.bare, I.base, I.loc, I.cell, I.free, I.freeC, fun p hp => I.pin p (List.mem_append_left _ hp), I.hok, I.len⟩
end
/-- a clause as it is read: its class, its name's slot, its suite -/
structure Cla where
  c : Value
  i : Option Nat
  t : Addr → Value → Option Addr → TS
def inS (i : Option Nat) (a : Addr) (σ : L2.St) : L2.St := match i with | none => σ | some i => σ.set i (some (.ref a))
def outS (i : Option Nat) (σ : L2.St) : L2.St := match i with | none => σ | some i => σ.set i none
def outD (i : Option Nat) (D : Ends) : Ends := { nx := fun σ H => D.nx (outS i σ) H, rt := D.rt, bk := fun σ H => D.bk (outS i σ) H, ct := fun σ H => D.ct (outS i σ) H }
def wTry (K : PySem.W.Frag) (Wo : WX) (D : Ends) : List Cla → WX
  | [] => Wo
  | k :: r => fun cls d σ H => ∃ b, PySem.W.exmOne K cls k.c = some b ∧ (b = true → ∀ a, H a = none → k.t a cls d (outD k.i D) (inS k.i a σ) (upd H a (ExV cls d a))) ∧ (b = false → wTry K Wo D r cls d σ H)
inductive ClaOk (X : Cx) : List ExceptHandler → List Cla → Prop
  | nil : ClaOk X [] []
  | bare {x : Str} {c : Value} {t : Addr → Value → Option Addr → TS} {b₀ : Stmt} {su : List Stmt} {np cp : Pos} {hds : List ExceptHandler} {l : List Cla} (hc : Names X x c)
      (hsu : ∀ a cls d pn, PSs (X.suite a pn) (b₀ :: su) (t a cls d)) (r : ClaOk X hds l) : ClaOk X (.ExceptHandler (some (.Name x np)) none (b₀ :: su) cp :: hds) (⟨c, none, t⟩ :: l)
  | named {x n : Str} {i : Nat} {c : Value} {t : Addr → Value → Option Addr → TS} {b₀ : Stmt} {su : List Stmt} {np cp : Pos} {hds : List ExceptHandler} {l : List Cla} (hc : Names X x c) (hi : X.N[i]? = some n) (hl : X.env.kindOf n = some .local)
      (hsu : ∀ a cls d pn, PSs (X.suite a pn) (b₀ :: su) (t a cls d)) (r : ClaOk X hds l) : ClaOk X (.ExceptHandler (some (.Name x np)) (some n) (b₀ :: su) cp :: hds) (⟨c, some i, t⟩ :: l)
section
variable {X : Cx} {body : List Stmt} {h₀ : ExceptHandler} {hds : List ExceptHandler} {l : List Cla} {pos : Pos} {tb : WX → TS} {Wo : WX}
theorem ps_try_g (hx : X.ex = []) (hs : X.stack = X.env :: X.outer) (hf : X.env.frame = some X.env.locals) (hN : X.N.Nodup) (tk : Takes X Wo)
    (hb : ∀ (W : WX) (pn : List (Addr × Obj)) (xe : Value → Shared → Prop), Takes (X.tr pn xe) W → PassesOwn (model X.prog X.w) X.A X.env xe → PSs (X.tr pn xe) body (tb W)) (hh : ClaOk X (h₀ :: hds) l) :
    PS X (.Try body (h₀ :: hds) [] [] pos) (fun D σ H => tb (wTry X.K Wo D l) D σ H) := by
  constructor
  intro pins s σ H D I h
  have ok := I.ok
  have frames : X.A.frames = some (X.env :: X.outer) := by rw [ok.frames, hs]
  refine wpAny_Try_except (wpAny_mono ((hb (wTry X.K Wo D l) (X.pn ++ pins) (fun e z => wpAny (model X.prog X.w) X.A (noteFrame e X.env) (fun _ z₂ => wpAny (model X.prog X.w) X.A (setFlight e none) (fun _ z₃ =>
    wpAny (model X.prog X.w) X.A (handleBy e X.env (h₀ :: hds)) (SP X pins D) X.xe z₃) X.xe z₂) X.xe z) ?_ PassesOwn.looking).run [] s σ H D (I.toTry _) h) ?_ fun _ _ z => z)
  · rintro u s2 ⟨a, B, sI, pn', σ', H', cls, d, rfl, Jt, ground, upto, sky, na, eos, bare, want⟩
    have J : Inv X pins σ' H' sI := Jt.ofTry ok
    have sky1 : Sky B (X.env :: X.outer) a (Zc cls d) X.env.locals s2.heap := by rw [← hs]; exact sky
    show wpAny (model X.prog X.w) X.A (noteFrame (.ref a) X.env) _ _ _
    refine Sky.land Zc.steady frames hf sky1 fun g3 fly up3 => ?_
    obtain ⟨oe, us, q1, q2, q3⟩ := fly.there
    have offFr : a ∉ frs (X.env :: X.outer) := fun hm => by
      obtain ⟨_, o', e', nf⟩ := fly.2.2.1.mem hm
      rw [q1] at e'; cases e'
      exact nf _ q3
    have gone : sI.heap.get? a = none := by
      cases e : sI.heap.get? a with
      | none => rfl
      | some o =>
        have y := ground a o e (by rw [hs]; exact offFr)
        rw [fly.2.1] at y; cases y
    have J3 : Inv X pins σ' H' { s2 with heap := g3 } := J.landed ground fly.1 (upto.trans up3) eos bare
    have run : ∀ {hds' : List ExceptHandler} {l' : List Cla}, ClaOk X hds' l' → wTry X.K Wo D l' cls d σ' H' → wpAny (model X.prog X.w) X.A (handleBy (.ref a) X.env hds') (SP X pins D) X.xe { s2 with heap := g3 } := by
      intro hds' l' hk
      have clause : ∀ {x : Str} {c : Value} {np : Pos} {b : Bool} {R : Result → Shared → Prop} {cp : Pos}, Names X x c → PySem.W.exmOne X.K cls c = some b → R (.ok (if b then .brk else .next)) { s2 with heap := g3 } →
          codeAny (model X.prog X.w) (X.A.mark (some (.ref a))) (.handlers (.ref a) [.ExceptHandler (some (.Name x np)) none [] cp] X.env) R { s2 with heap := g3 } := by
        intro x c np b R cp hc hb1 hR
        have S3 := inv_suite J3 a
        have LT : PySem.W.Looks (model X.prog X.w) g3 (typeOf (.ref a)) cls := fun A Q E z k q => wpAny_typeOf_ref (k _ _ q1) (by rw [q2.1]; exact q)
        have LM := PySem.W.exm_one (M := model X.prog X.w) J3.kIn LT hb1
        refine codeAny_handlers_test ?_
        obtain ⟨hg, hdbg, hm | ⟨hm, hv, hnn⟩⟩ := hc
        · exact ld_glob (X := X.suite a (X.pn ++ pins)) S3 hg hm (LM.here hR) hdbg
        · exact ld_blt (X := X.suite a (X.pn ++ pins)) S3 hg hm hv (LM.here hR) hnn hdbg
      have landed : ∀ g4, HandSPX.FlyingZ B (X.env :: X.outer) a (Zc cls d) g4 → g3.UpToSlots g4 → Inv X pins σ' (upd H' a (ExV cls d a)) { s2 with heap := g4 } := by
        intro g4 fly4 up4
        have J4 : Inv X pins σ' H' { s2 with heap := g4 } := J.landed ground fly4.1 ((upto.trans up3).trans up4) eos bare
        obtain ⟨o4, v4, r1, r2, r3⟩ := fly4.there
        exact inv_hold J J4 hx gone na r1 r2 r3
      induction hk with
      | nil =>
        intro w
        refine wpAny_handleBy_nil ?_
        obtain ⟨k1, k2, k3, oe, vs, T, oT, ts', he, hz, hd, h1, hr⟩ := id fly
        unfold PySem.passOn
        refine wpAny_bind (wpAny_field he hd h1 ?_)
        rw [if_neg (show ¬ ((Value.ref T == Value.none) = true) from by simp)]
        have up : wpAny (model X.prog X.w) X.A (setFlight (.ref a) X.env.frame) (fun _ z => wpAny (model X.prog X.w) X.A (throw (.ref a) : Sem Flow) (SP X pins D) X.xe z) X.xe { s2 with heap := g3 } := by
          rw [hf]
          refine HandSPX.setFlight_upZ fly fun g4 hh4 up4 => wpAny_throw (tk _ _ ?_)
          exact ⟨a, B, sI, pins, σ', H', cls, d, rfl, J, ground, (upto.trans up3).trans up4, .inr (.inr (by rw [hs]; exact hh4)), na, eos, bare, w⟩
        first
          | exact wpAny_bind (wpAny_pure (wpAny_bind up))
          | exact wpAny_bind up
      | bare hc hsu r ih =>
        intro w
        obtain ⟨b, hb1, hyes, hno⟩ := w
        refine wpAny_handleBy_cons (clause hc hb1 ?_) (by intro q; cases q)
        cases b with
        | false => exact ih (hno rfl)
        | true =>
          refine codeAny_handlers_suite (HandSPX.lands_againZ fly fun g4 fly4 up4 => ?_)
          refine wpAny_mono ((hsu a cls d (X.pn ++ pins)).run [] _ _ _ _ (inv_suite (landed g4 fly4 up4) a) (hyes rfl a na)) ?_ fun _ _ z => False.elim z
          intro fl s6 hsp
          match fl, hsp with
          | .next, ⟨σ6, H6, S6, q6⟩ => exact ⟨_, _, inv_unsuite S6 ok, q6⟩
          | .brk, ⟨σ6, H6, S6, q6⟩ => exact ⟨_, _, inv_unsuite S6 ok, q6⟩
          | .cont, ⟨σ6, H6, S6, q6⟩ => exact ⟨_, _, inv_unsuite S6 ok, q6⟩
          | .ret u, ⟨v6, σ6, H6, S6, r6, q6⟩ => exact ⟨_, _, _, inv_unsuite S6 ok, r6, q6⟩
      | named hc hi hl hsu r ih =>
        intro w
        obtain ⟨b, hb1, hyes, hno⟩ := w
        refine wpAny_handleBy_cons (clause hc hb1 ?_) (by intro q; cases q)
        cases b with
        | false => exact ih (hno rfl)
        | true =>
          refine codeAny_handlers_suite_as (HandSPX.lands_againZ fly fun g4 fly4 up4 => ?_)
          refine store_ok (X := X.suite a (X.pn ++ pins)) (v := .ref a) (inv_suite (landed g4 fly4 up4) a) hN hi (.inl hl) rfl (fun s5 S5 => ?_) (.inr hl)
          refine wpAny_mono ((hsu a cls d (X.pn ++ pins)).run [] s5 _ _ _ S5 (hyes rfl a na)) ?_ fun _ _ z => False.elim z
          intro fl s6 hsp
          match fl, hsp with
          | .next, ⟨σ6, H6, S6, q6⟩ => exact gone_ok (inv_unsuite S6 ok) hN hi hl fun s7 J7 => ⟨_, _, J7, q6⟩
          | .brk, ⟨σ6, H6, S6, q6⟩ => exact gone_ok (inv_unsuite S6 ok) hN hi hl fun s7 J7 => ⟨_, _, J7, q6⟩
          | .cont, ⟨σ6, H6, S6, q6⟩ => exact gone_ok (inv_unsuite S6 ok) hN hi hl fun s7 J7 => ⟨_, _, J7, q6⟩
          | .ret u, ⟨v6, σ6, H6, S6, r6, q6⟩ => exact gone_ok (inv_unsuite S6 ok) hN hi hl fun s7 J7 => ⟨_, _, _, J7, r6, q6⟩
    exact run hh want
  · intro fl s1 hsp
    match fl, hsp with
    | .next, ⟨σ', H', J', q⟩ => exact wpAny_execs_nil ⟨σ', H', J'.ofTry ok, q⟩
    | .brk, ⟨σ', H', J', q⟩ => exact ⟨σ', H', J'.ofTry ok, q⟩
    | .cont, ⟨σ', H', J', q⟩ => exact ⟨σ', H', J'.ofTry ok, q⟩
    | .ret u, ⟨v, σ', H', J', r, q⟩ => exact ⟨v, σ', H', J'.ofTry ok, r, q⟩
end
end Px

set_option Elab.async false
set_option linter.all false
set_option maxRecDepth 100000
namespace Px
open PySem PySem.Spec PyProof.Rows L2
/-! # try over plain data -/
section
variable {K : PySem.W.Frag} {g : Gh} {σ : L2.St} {H : Hp} {ρ : Rho} {M : Mm} {F : Hp} {O : Own}
theorem Ab.unput (A : Ab K g σ H ρ M F O) (i : Nat) : Ab K g (σ.set i none) H (un ρ i) M F O :=
  { toWd := A.toWd, len := by rw [un_len, List.length_set]; exact A.len, sl := fun j sv e => by
      by_cases z : j = i
      · subst z; rw [gt_un_self] at e; cases e
      · rw [gt_un_ne z] at e
        obtain ⟨u, e1, q⟩ := A.sl j sv e
        exact ⟨u, by rw [List.getElem?_set_ne (Ne.symm z)]; exact e1, q⟩ }
end
def inR (i : Option Nat) (d : D) (ρ : Rho) : Rho := match i with | none => ρ | some i => st ρ i (.val d)
def outR (i : Option Nat) (ρ : Rho) : Rho := match i with | none => ρ | some i => un ρ i
def outP (i : Option Nat) (P : PEnds) : PEnds := { P with nx := fun ρ M => P.nx (outR i ρ) M, bk := fun ρ M => P.bk (outR i ρ) M, ct := fun ρ M => P.ct (outR i ρ) M }
/-- a clause, read over plain data: which classes it takes, its name's slot, its suite -/
structure PCl where
  tb : Value → Bool → Prop
  i : Option Nat
  p : PTS
def wCl (w : PWi) (P : PEnds) : List PCl → PWi
  | [] => w
  | k :: r => fun cls fs ρ M => ∃ b, k.tb cls b ∧ (b = true → ∀ a d, k.p w0 (outP k.i P) (inR k.i (.exv a cls d (fs.map (·.1)) (fs.map (·.2))) ρ) M) ∧ (b = false → wCl w P r cls fs ρ M)
def dTry (pb : PTS) (cs : List PCl) : PTS := fun w P ρ M => pb (wCl w P cs) P ρ M
inductive PClOk (X : Cx) : List ExceptHandler → List PCl → Prop
  | nil : PClOk X [] []
  | bare {x : Str} {c : Value} {tb : Value → Bool → Prop} {p : PTS} {b₀ : Stmt} {su : List Stmt} {np cp : Pos} {hds : List ExceptHandler} {l : List PCl} (hc : Names X x c) (ht : ∀ cls b, tb cls b → PySem.W.exmOne X.K cls c = some b)
      (hsu : ∀ a pn, DSs (X.suite a pn) (fun _ _ _ _ => False) (b₀ :: su) p) (r : PClOk X hds l) : PClOk X (.ExceptHandler (some (.Name x np)) none (b₀ :: su) cp :: hds) (⟨tb, none, p⟩ :: l)
  | named {x n : Str} {i : Nat} {c : Value} {tb : Value → Bool → Prop} {p : PTS} {b₀ : Stmt} {su : List Stmt} {np cp : Pos} {hds : List ExceptHandler} {l : List PCl} (hc : Names X x c) (ht : ∀ cls b, tb cls b → PySem.W.exmOne X.K cls c = some b)
      (hi : X.N[i]? = some n) (hl : X.env.kindOf n = some .local) (hsu : ∀ a pn, DSs (X.suite a pn) (fun _ _ _ _ => False) (b₀ :: su) p) (r : PClOk X hds l) : PClOk X (.ExceptHandler (some (.Name x np)) (some n) (b₀ :: su) cp :: hds) (⟨tb, some i, p⟩ :: l)
section
variable {X : Cx} {W : WX} {body : List Stmt} {h₀ : ExceptHandler} {hds : List ExceptHandler} {l : List PCl} {pos : Pos} {pb : PTS}
def claOf (K : PySem.W.Frag) (p : PTS) : Addr → Value → Option Addr → TS := fun _ _ _ => realS K (fun _ _ _ _ => False) p
theorem PClOk.cla {hs : List ExceptHandler} {l : List PCl} (h : PClOk X hs l) : ∃ l', ClaOk X hs l' ∧ ∀ (E : Ends) (g : Gh) (F : Hp) (w : PWi) (P : PEnds), WOk X.K g F W w →
    (∀ σ' H' ρ' M' F' O', Ab X.K g σ' H' ρ' M' F' O' → Same F F' → P.nx ρ' M' → E.nx σ' H') →
    (∀ v σ' H' ρ' M' F' O' d, Ab X.K g σ' H' ρ' M' F' O' → Same F F' → Rp X.K F' d v → P.rt d M' → E.rt v H') →
    (∀ σ' H' ρ' M' F' O', Ab X.K g σ' H' ρ' M' F' O' → Same F F' → P.bk ρ' M' → E.bk σ' H') →
    (∀ σ' H' ρ' M' F' O', Ab X.K g σ' H' ρ' M' F' O' → Same F F' → P.ct ρ' M' → E.ct σ' H') →
    (∀ a xs σ' H' ρ' M' F' O' ds, Ab X.K g σ' H' ρ' M' F' O' → Same F F' → H' a = some (.lst xs) → RpL X.K F' ds xs → F' a = none → O' a = none → g.H0 a = none → P.rl ds M' → E.rt (.ref a) H') →
    WOk X.K g F (wTry X.K W E l') (wCl w P l) := by
  have suite : ∀ {i : Option Nat} {p : PTS} {E : Ends} {g : Gh} {F : Hp} {P : PEnds} {cls : Value} {dd : Option Addr} {σ : L2.St} {H : Hp} {ρ : Rho} {M : Mm} {F' : Hp} {O : Own} {fs : List (Str × D)} {a : Addr},
      Ab X.K g σ H ρ M F' O → Same F F' → ExOk X.K F' dd fs → H a = none → p w0 (outP i P) (inR i (.exv a cls dd (fs.map (·.1)) (fs.map (·.2))) ρ) M →
      (∀ σ' H' ρ' M' F' O', Ab X.K g σ' H' ρ' M' F' O' → Same F F' → P.nx ρ' M' → E.nx σ' H') →
      (∀ v σ' H' ρ' M' F' O' d, Ab X.K g σ' H' ρ' M' F' O' → Same F F' → Rp X.K F' d v → P.rt d M' → E.rt v H') →
      (∀ σ' H' ρ' M' F' O', Ab X.K g σ' H' ρ' M' F' O' → Same F F' → P.bk ρ' M' → E.bk σ' H') →
      (∀ σ' H' ρ' M' F' O', Ab X.K g σ' H' ρ' M' F' O' → Same F F' → P.ct ρ' M' → E.ct σ' H') →
      (∀ a xs σ' H' ρ' M' F' O' ds, Ab X.K g σ' H' ρ' M' F' O' → Same F F' → H' a = some (.lst xs) → RpL X.K F' ds xs → F' a = none → O' a = none → g.H0 a = none → P.rl ds M' → E.rt (.ref a) H') →
      realS X.K (fun _ _ _ _ => False) p (outD i E) (inS i a σ) (upd H a (ExV cls dd a)) := by
    intro i p E g F P cls dd σ H ρ M F' O fs a A s x na h k1 k2 k3 k4 k5
    have A1 := A.lay (o := ExV cls dd a) na
    have s1 : Same F' (upd F' a (ExV cls dd a)) := same_new (A.f0 na)
    have rd : Rp X.K (upd F' a (ExV cls dd a)) (.exv a cls dd (fs.map (·.1)) (fs.map (·.2))) (.ref a) := by
      refine ⟨rfl, upd_same, ?_⟩
      cases dd with
      | none =>
        have x : fs = [] := x
        subst x
        exact .inl ⟨rfl, rfl, rfl⟩
      | some b =>
        obtain ⟨ys, e1, e2, e3⟩ := x
        exact .inr ⟨b, ys, rfl, s1 _ _ e1, e2, RpL.mono s1 _ _ e3⟩
    have sx := s.trans s1
    have A2 : Ab X.K g (inS i a σ) (upd H a (ExV cls dd a)) (inR i (.exv a cls dd (fs.map (·.1)) (fs.map (·.2))) ρ) M (upd F' a (ExV cls dd a)) O := by
      cases i with
      | none => exact A1
      | some i => exact A1.put rd
    have out : ∀ {σ' : L2.St} {H' : Hp} {ρ' : Rho} {M' : Mm} {F2 : Hp} {O' : Own}, Ab X.K g σ' H' ρ' M' F2 O' → Ab X.K g (outS i σ') H' (outR i ρ') M' F2 O' := by
      intro σ' H' ρ' M' F2 O' B
      cases i with
      | none => exact B
      | some i => exact B.unput i
    exact ⟨g, _, M, _, O, _, w0, A2, h, fun _ _ _ _ _ _ _ _ _ _ _ _ z => z.elim,
      fun σ' H' ρ' M' F2 O' B s2 q => k1 _ _ _ _ _ _ (out B) (sx.trans s2) q, fun v σ' H' ρ' M' F2 O' d B s2 r q => k2 v _ _ _ _ _ _ d B (sx.trans s2) r q,
      fun σ' H' ρ' M' F2 O' B s2 q => k3 _ _ _ _ _ _ (out B) (sx.trans s2) q, fun σ' H' ρ' M' F2 O' B s2 q => k4 _ _ _ _ _ _ (out B) (sx.trans s2) q,
      fun a xs σ' H' ρ' M' F2 O' ds B s2 e1 e2 e3 e4 e5 q => k5 a xs _ _ _ _ _ _ ds B (sx.trans s2) e1 e2 e3 e4 e5 q⟩
  induction h with
  | nil => exact ⟨[], .nil, fun E g F w P hw _ _ _ _ _ => hw⟩
  | @bare x c tb p b₀ su np cp hds l hc ht hsu r ih =>
    obtain ⟨l', r', hl⟩ := ih
    refine ⟨⟨c, none, claOf X.K p⟩ :: l', .bare hc (fun a _ _ pn => hsu a pn) r', fun E g F w P hw k1 k2 k3 k4 k5 => ?_⟩
    intro cls dd σ H ρ M F' O fs A s x ⟨b, t1, t2, t3⟩
    exact ⟨b, ht cls b t1, fun hb a na => suite (i := none) A s x na (t2 hb a dd) k1 k2 k3 k4 k5, fun hb => hl E g F w P hw k1 k2 k3 k4 k5 cls dd σ H ρ M F' O fs A s x (t3 hb)⟩
  | @named x n i c tb p b₀ su np cp hds l hc ht hi hln hsu r ih =>
    obtain ⟨l', r', hl⟩ := ih
    refine ⟨⟨c, some i, claOf X.K p⟩ :: l', .named hc hi hln (fun a _ _ pn => hsu a pn) r', fun E g F w P hw k1 k2 k3 k4 k5 => ?_⟩
    intro cls dd σ H ρ M F' O fs A s x ⟨b, t1, t2, t3⟩
    exact ⟨b, ht cls b t1, fun hb a na => suite (i := some i) A s x na (t2 hb a dd) k1 k2 k3 k4 k5, fun hb => hl E g F w P hw k1 k2 k3 k4 k5 cls dd σ H ρ M F' O fs A s x (t3 hb)⟩
theorem ds_try (hN : X.N.Nodup) (tk : Takes X W) (hb : ∀ (W' : WX) (pn : List (Addr × Obj)) (xe : Value → Shared → Prop), Takes (X.tr pn xe) W' → PassesOwn (model X.prog X.w) X.A X.env xe → DSs (X.tr pn xe) W' body pb)
    (hh : PClOk X (h₀ :: hds) l) (hx : X.ex = [] := by rfl) (hs : X.stack = X.env :: X.outer := by rfl) (hf : X.env.frame = some X.env.locals := by rfl) : DS X W (.Try body (h₀ :: hds) [] [] pos) (dTry pb l) := by
  obtain ⟨l', hc, hw'⟩ := hh.cla (W := W)
  refine ps_imp (ps_try_g (tb := fun W' => realS X.K W' pb) hx hs hf hN tk hb hc) fun D σ H ⟨g, ρ, M, F, O, P, w, A, h, hw, k1, k2, k3, k4, k5⟩ => ?_
  exact ⟨g, ρ, M, F, O, P, _, A, h, hw' D g F w P hw k1 k2 k3 k4 k5, k1, k2, k3, k4, k5⟩
end
end Px

set_option Elab.async false
set_option linter.all false
set_option maxRecDepth 100000
namespace Px
open PySem PySem.Spec PyProof.Rows L2
/-! # range downwards -/
def rngDn (hi : Int) (n : Nat) : List D := (List.range n).map fun (i : Nat) => .int (hi - (i : Int))
theorem rngDn_at {hi : Int} {n i : Nat} {d : D} (h : (rngDn hi n)[i]? = some d) : d = .int (hi - (i : Int)) ∧ i < n := by
  unfold rngDn at h
  rw [List.getElem?_map] at h
  cases q : (List.range n)[i]? with
  | none => rw [q] at h; cases h
  | some j =>
    rw [q] at h
    cases h
    obtain ⟨h1, h2⟩ := List.getElem?_eq_some_iff.mp q
    rw [List.getElem_range] at h2
    rw [List.length_range] at h1
    subst h2
    exact ⟨rfl, h1⟩
theorem rngDn_len {hi : Int} {n : Nat} : (rngDn hi n).length = n := by unfold rngDn; rw [List.length_map, List.length_range]
theorem wk_down {K : PySem.W.Frag} {F : Hp} {hi : Int} {n : Nat} : Wk K (Itc hi (-1) n) F (rngDn hi n) where
  go := fun g σ ρ M F' O H i A s h => by rw [rngDn_len] at h; exact h
  yl := fun g σ ρ M F' O H i x H' d A s ⟨e, hx⟩ hd => by
    subst e
    obtain ⟨e1, _⟩ := rngDn_at hd
    subst e1
    refine ⟨F', A, Same.refl F', ?_⟩
    show x = V.int (hi - (i : Int))
    rw [hx]
    congr 1
    omega
  sp := fun g σ ρ M F' O H A s => by rw [rngDn_len]; exact Nat.le_refl _
def iR3 (pa pb pc : PTE) : PTA := fun w ρ M q => pa w ρ M fun x M1 => pb w ρ M1 fun y M2 => pc w ρ M2 fun z M3 => match x, y, z with
  | .int m, .int n, .int k => k = -1 ∧ -1000000 ≤ m ∧ m ≤ 1000000 ∧ -1000000 ≤ n ∧ n ≤ 1000000 ∧ q (rngDn m (m - n).toNat) M3
  | _, _, _ => False
/-- x or y: by the truth of a list -/
def dOrT (pa pb : PTE) : PTE := fun w ρ M q => pa w ρ M fun d M1 => match d with
  | .lst l => if l.isEmpty = true then pb w ρ M1 q else q (.lst l) M1
  | _ => False
section
variable {X : Cx} {W : WX} {tg a b c : Expr} {rest : List Expr} {pa pb pc : PTE} {pos p : Pos}
theorem di_r3 (hg : Gl X "range") (hm : X.mg "range" = none) (ha : DE X W a pa) (hb : DE X W b pb) (hc : DE X W c pc) (he : starEach [a, b, c] X.env = (false, eval a X.env) :: starEach [b, c] X.env := by rfl) (he2 : starEach [b, c] X.env = (false, eval b X.env) :: starEach [c] X.env := by rfl)
    (he3 : starEach [c] X.env = (false, eval c X.env) :: starEach [] X.env := by rfl) (hpl : (backTo pos (starEach [b, c] X.env)).any (·.1) = false := by rfl) : DI X W tg (.Call (.Name "range" p) [a, b, c] [] pos) (iR3 pa pb pc) :=
  pi_imp (pi_range3 hg hm (pa_cons ha (pa_cons hb (pa_cons hc pa_nil he3) he2) he) he hpl) fun σ H R ⟨g, ρ, M, F, O, q, w, A, pr, hw, k⟩ =>
  ⟨g, ρ, M, F, O, _, w, A, pr, hw, fun v H1 F1 O1 M1 d A1 s1 r1 q1 => ⟨g, ρ, M1, F1, O1, _, w, A1, q1, hw.mono s1, fun u H2 F2 O2 M2 e A2 s2 r2 q2 => ⟨g, ρ, M2, F2, O2, _, w, A2, q2, (hw.mono s1).mono s2, fun y H3 F3 O3 M3 f A3 s3 r3 q3 => by
    cases d with
    | int m =>
      cases e with
      | int n =>
        cases f with
        | int z =>
          obtain ⟨rfl, z1, z2, z3, z4, q4⟩ := q3
          exact ⟨m, n, -1, _, by rw [show v = .int m from r1, show u = .int n from r2, show y = .int (-1) from r3], RgC.neg (by omega) (by omega) (by omega) (by omega), k _ H3 F3 O3 M3 _ A3 ((s1.trans s2).trans s3) wk_down q4⟩
        | _ => exact (show False from q3).elim
      | _ => exact (show False from q3).elim
    | _ => exact (show False from q3).elim⟩⟩⟩
theorem de_orT (ha : DE X W a pa) (hb : DE X W (.BoolOp .Or (b :: rest) pos) pb) : DE X W (.BoolOp .Or (a :: b :: rest) pos) (dOrT pa pb) := pe_imp (pe_orT ha hb) fun σ H Q ⟨g, ρ, M, F, O, q, w, A, pr, hw, k⟩ =>
  ⟨g, ρ, M, F, O, _, w, A, pr, hw, fun v H1 F1 O1 M1 d A1 s1 r1 q1 => by
    cases d with
    | lst l =>
      have q1 : if l.isEmpty = true then pb w ρ M1 q else q (.lst l) M1 := q1
      have r0 := r1
      obtain ⟨a, xs, e, hs, rl⟩ := r1
      have el : l.isEmpty = xs.isEmpty := by
        have := rl.len
        cases l <;> cases xs <;> first | rfl | cases this
      refine ⟨!xs.isEmpty, by subst e; exact .inl ⟨xs, .inl (.inl (A1.sub _ _ hs)), rfl⟩, ?_⟩
      rw [el] at q1
      cases hx : xs.isEmpty with
      | true =>
        rw [hx, if_pos rfl] at q1
        exact ⟨g, ρ, M1, F1, O1, q, w, A1, q1, hw.mono s1, fun v H2 F2 O2 M2 d A2 s2 r2 q2 => k v H2 F2 O2 M2 d A2 (s1.trans s2) r2 q2⟩
      | false =>
        rw [hx, if_neg Bool.false_ne_true] at q1
        exact k v H1 F1 O1 M1 (.lst l) A1 s1 r0 q1
    | _ => exact (show False from q1).elim⟩
end
end Px

set_option Elab.async false
set_option linter.all false
set_option maxRecDepth 100000
namespace Px
open PySem PySem.Spec PyProof.Rows L2
/-! # `a, xs, b, c = e, [], f, g`: by a tuple -/
theorem WOk.here {K : PySem.W.Frag} {g : Gh} {σ : L2.St} {H F : Hp} {ρ : Rho} {M : Mm} {O : Own} {W : WX} {w : PWi} (A : Ab K g σ H ρ M F O) (h : WOk K g F W w) : WOk K (g.here H F O) F W w :=
  fun cls dd σ' H' ρ' M' F' O' fs A' s x y => h cls dd σ' H' ρ' M' F' O' fs (A.there A') s x y
def dPar4L (i j l m : Nat) (pa pb pc : PTE) : PTS := fun w P ρ M => pa w ρ M fun a M1 => pb w ρ M1 fun b M2 => pc w ρ M2 fun c M3 => P.nx (st (st (st (st ρ i (.val a)) j (.own [])) l (.val b)) m (.val c)) M3
section
variable {X : Cx} {W : WX} {pa pb pc : PTE}
theorem ds_par4L (i j l m : Nat) {x y z u : Str} {a b c : Expr} {px py pz pu pt p2 : Pos} {kt k2 pt2} {pos : Pos} (hc : X.calm = true) (hN : X.N.Nodup) (ha : DE X W a pa) (hb : DE X W b pb) (hcc : DE X W c pc)
    (hi : X.N[i]? = some x := by rfl) (hj : X.N[j]? = some y := by rfl) (hl : X.N[l]? = some z := by rfl) (hm : X.N[m]? = some u := by rfl)
    (hx : X.env.scope.names.lookup x = some .local := by rfl) (hy : X.env.scope.names.lookup y = some .local := by rfl) (hz : X.env.scope.names.lookup z = some .local := by rfl) (hu : X.env.scope.names.lookup u = some .local := by rfl)
    (h1 : starEach [a, .List [] p2, b, c] X.env = (false, eval a X.env) :: starEach [.List [] p2, b, c] X.env := by rfl) (h2 : starEach [.List [] p2, b, c] X.env = (false, eval (.List [] p2) X.env) :: starEach [b, c] X.env := by rfl)
    (h3 : starEach [b, c] X.env = (false, eval b X.env) :: starEach [c] X.env := by rfl) (h4 : starEach [c] X.env = (false, eval c X.env) :: starEach [] X.env := by rfl)
    (hs : swapsWithSole [.Tuple [.Name x px, .Name y py, .Name z pz, .Name u pu] kt pt] (.Tuple [a, .List [] p2, b, c] k2 pt2) pos.line X.env = pure false := by rfl)
    (hw : swappedStores [.Tuple [.Name x px, .Name y py, .Name z pz, .Name u pu] kt pt] (.Tuple [a, .List [] p2, b, c] k2 pt2) X.env = pure none := by rfl) :
    DS X W (.Assign [.Tuple [.Name x px, .Name y py, .Name z pz, .Name u pu] kt pt] (.Tuple [a, .List [] p2, b, c] k2 pt2) pos) (dPar4L i j l m pa pb pc) :=
  ps_imp (ps_asg (pe_tup (pa_cons ha (pa_cons (pe_lst pa_nil) (pa_cons hb (pa_cons hcc pa_nil h4) h3) h2) h1))
    (pg_tup hc (pgs_cons (pg_name hN hi (.inl hx) (.inr hx)) (pgs_cons (pg_name hN hj (.inl hy) (.inr hy)) (pgs_cons (pg_name hN hl (.inl hz) (.inr hz)) (pgs_cons (pg_name hN hm (.inl hu) (.inr hu)) pgs_nil))))) hs hw)
    fun D σ H ⟨g, ρ, M, F, O, P, w, A, h, hw, k1, _⟩ => by
    refine ⟨g, ρ, M, F, O, _, w, A, h, hw, fun v1 H1 F1 O1 M1 d1 A1 s1 r1 q1 => ⟨by show 0 ≤ sizeLine; decide, fun t ht => ?_⟩⟩
    have f1 := A1.f0 ht
    have o1 := A1.o0 ht
    have g1 := A1.g0 ht
    have A2 := A1.laid (o := .lst []) ht
    refine ⟨_, ρ, M1, F1, O1, _, w, A2.here, q1, (hw.mono s1).here A2, fun v2 H3 F3 O3 M3 d2 B3 s3 r2 q2 => ?_⟩
    obtain ⟨e3, f3, o3⟩ := kept_at A2 (D := t) (o := .lst []) upd_same f1 o1 B3
    have A3 := A2.there B3
    refine ⟨_, ρ, M3, F3, O3, _, w, A3.here, q2, (hw.mono (s1.trans s3)).here A3, fun v3 H4 F4 O4 M4 d3 B4 s4 r3 q3 => ?_⟩
    obtain ⟨e4, f4, o4⟩ := kept_at A3 e3 f3 o3 B4
    have A4 := A3.there B4
    refine ⟨by show 4 ≤ sizeLine; decide, fun p hp => ⟨p, _, rfl, .inl (.inl upd_same), rfl, ?_⟩⟩
    have ne : t ≠ p := fun z => by rw [z, hp] at e4; cases e4
    have A5 := ((A4.laid (o := .tup [v1, .ref t, v2, v3]) hp).put (i := i) (r1.mono (s3.trans s4))).putOwn (i := j) ((upd_ne ne).trans e4) (l := []) rfl f4 o4 g1
    exact ⟨_, _, rfl, _, _, rfl, _, _, rfl, _, _, rfl, rfl, k1 _ _ _ M4 F4 _ ((A5.put (i := l) (r2.mono s4)).put (i := m) r3) ((s1.trans s3).trans s4) q3⟩
end
end Px

set_option Elab.async false
set_option linter.all false
set_option maxRecDepth 100000
namespace Px
open PySem PySem.Spec PyProof.Rows L2
/-! # instances: made by their class -/
def delM (M : Mm) (p : Addr) : Mm := fun b => if b = p then none else M b
section
variable {K : PySem.W.Frag} {g : Gh} {σ : L2.St} {H : Hp} {F : Hp} {ρ : Rho} {M : Mm} {O : Own} {p : Addr} {mo : Mo}
/-- one's own object is one's own no more -/
theorem Ab.dropMo (A : Ab K g σ H ρ M F O) (hO : O p = some (.obj p)) : Ab K g σ H ρ (delM M p) F (fun b => if b = p then none else O b) := by
  have keep : ∀ b u, O b = some u → u ≠ .obj p → (if b = p then none else O b) = some u := fun b u e n => by
    rw [if_neg fun z => by rw [z, hO] at e; exact n (Option.some.inj e).symm]; exact e
  have back : ∀ b u, (if b = p then none else O b) = some u → O b = some u := fun b u e => by
    by_cases z : b = p
    · rw [if_pos z] at e; cases e
    · rw [if_neg z] at e; exact e
  exact { sub := A.sub, ext0 := A.ext0, new := A.new, frm := A.frm, thr := A.thr
          liv := fun b u e => A.liv b u (back b u e)
          slo := fun b u e n => A.slo b u (back b u e) n
          tm := fun q l e => by
            obtain ⟨xs, e1, e2, e3⟩ := A.tm q l e
            exact ⟨xs, e1, e2, keep q _ e3 fun z => by cases z⟩
          mu := fun b m e => by
            have e' : (if b = p then none else M b) = some m := e
            by_cases z : b = p
            · rw [if_pos z] at e'; cases e'
            · rw [if_neg z] at e'
              exact (A.mu b m e').mono (Same.refl F) fun q u e1 e2 => ⟨e1, keep q _ e2 fun y => by injection y with y; exact z y⟩
          len := A.len
          sl := fun j sv e => by
            obtain ⟨v, e1, r⟩ := A.sl j sv e
            exact ⟨v, e1, r.mono (Same.refl F) fun q xs e1 e2 => ⟨e1, keep q _ e2 fun z => by cases z⟩⟩ }
end
/-- C(..): what __init__ sets is the instance -/
def dMake (C : Addr) (sp : PSp) (pl : PTA) : PTE := fun w ρ M q => pl w ρ M fun ds M1 => ∀ a, M1 a = none →
  sp (.raw (.ref a) :: ds) (updM M1 a (.ins C [])) (fun d M2 => d = .non ∧ ∃ fs, M2 a = some (.ins C fs) ∧ q (.obj C (fs.map (·.1)) (fs.map (·.2))) (delM M2 a)) fun cls fs M2 => w cls fs ρ M2
section
variable {X : Cx} {W : WX} {k n : Nat} {f C : Addr} {fd : FuncData} {ps : List Str} {sp : PSp} {x : Str} {p pos : Pos} {e : Expr} {es : List Expr} {pl : PTA}
theorem run_makeG {sp : Sp} {pins : List (Addr × Obj)} {σ : L2.St} {H : Hp} {s : Shared} {Q : VK} {us : List Value} {vs : List V} (Mk : L2.Mk X.K C f) (Fg : FnG X.prog X.w X.K X.mg X.base k f fd ps sp) (hr : Room (k + 1) X.A) (hG : X.A.guards = some []) (hb : Binds X.K fd ps [])
    (tk : Takes X W) (I : Inv X pins σ H s) (r : Vals vs us) (h : ∀ a dx, H a = none → H dx = none → dx ≠ a → sp (.ref a :: vs) (upd (upd H dx (.own a)) a (.ins C dx [])) (fun v H2 => v = .non ∧ Q (.ref a) H2) fun cls d H' => W cls d σ H') :
    wpAny (model X.prog X.w) X.A (call (.ref C) us) (EP X pins σ Q) X.xe s := by
  have J := Inv.made (C := C) I
  have hq := h _ _ (I.hok.fresh (Nat.le_succ s.heap.objs.size)) (I.hok.fresh (Nat.le_refl _)) (Nat.ne_of_lt (Nat.lt_succ_self _))
  have rs : Vals (V.ref (s.heap.objs.size + 1) :: vs) (Value.ref (s.heap.objs.size + 1) :: us) := .cons rfl r
  have hl : ((Value.ref (s.heap.objs.size + 1) :: us) ++ []).length = ps.length := by
    rw [List.append_nil, ← rs.length]
    exact Fg.len _ _ _ _ hq
  have bd := hb _ (Value.ref (s.heap.objs.size + 1) :: us) J.kIn hl
  rw [List.append_nil] at bd
  refine wpAny_call (L2.make_map (f := f) I.kIn Mk.makes Mk.init (beq_iff_eq.mp Mk.fn) (codeAny_mono (Fg.run _ X.stack _ _ ⟨_ :: us, []⟩ _ _ _ _ (hr.make C us []) hG (J.env0.make C us []) bd rs hq) fun o s2 ho => ?_))
  cases o with
  | error er => exact tk er s2 (XE.of_call J (fun _ _ _ z => z) ho)
  | ok fl =>
    cases fl with
    | ret u =>
      obtain ⟨v, H2, I2, rv, ev, q2⟩ := J.after ho
      rw [ev] at rv
      exact ⟨rv, V.ref _, H2, I2, rfl, q2⟩
    | next => exact ho.elim
    | brk => exact ho.elim
    | cont => exact ho.elim
theorem make_reading {K : PySem.W.Frag} {g : Gh} {σ : L2.St} {H : Hp} {ρ : Rho} {M : Mm} {F : Hp} {O : Own} {w : PWi} {q : PQ} {ds : List D} {vs : List V} {Q : VK} {a dx : Addr} (ha : H a = none) (hd : H dx = none) (ne : dx ≠ a) (A : Ab K g σ H ρ M F O) (hw : WOk K g F W w) (r : RpL K F ds vs) (hl : ds.length + 1 = n)
    (h : sp (.raw (.ref a) :: ds) (updM M a (.ins C [])) (fun d M2 => d = .non ∧ ∃ fs, M2 a = some (.ins C fs) ∧ q (.obj C (fs.map (·.1)) (fs.map (·.2))) (delM M2 a)) fun cls fs M2 => w cls fs ρ M2)
    (k : ∀ v H' F' O' M' d, Ab K g σ H' ρ M' F' O' → Same F F' → Rp K F' d v → q d M' → Q v H') :
    toSp K n sp (.ref a :: vs) (upd (upd H dx (.own a)) a (.ins C dx [])) (fun v H2 => v = .non ∧ Q (.ref a) H2) fun cls d H' => W cls d σ H' := by
  have A1 := A.laid (o := .own a) hd
  have ha1 : upd H dx (.own a) a = none := (upd_ne (Ne.symm ne)).trans ha
  have A2 := A1.newMo (o := .ins C dx []) (mo := .ins C []) ha1 ⟨dx, [], upd_same, if_pos rfl, rfl, rfl⟩
  refine ⟨g, F, _, _, .raw (.ref a) :: ds, _, _, by rw [List.length_cons, ← r.len, hl], A2.toWd, ⟨_, vs, rfl, rfl, r⟩, h, fun v H' F' O' M' d B rd hq => ?_, fun cls dd H' F' O' M' fs B xk hq => ?_⟩
  · obtain ⟨rfl, fs, hM, hq⟩ := hq
    obtain ⟨O2, A3, s⟩ := A2.after B
    obtain ⟨dx', ys, e1, e2, e3, e4⟩ := A3.mu a _ hM
    have hF := (A3.liv a _ e2).2.1
    have A4 := (A3.dropMo e2).freeze e1 hF (if_pos rfl) (A.g0 ha)
    have s2 := s.trans (same_new (o := .ins C dx' ys) hF)
    exact ⟨rd, k (.ref a) H' _ _ _ (.obj C (fs.map (·.1)) (fs.map (·.2))) A4 s2 ⟨a, dx', ys, rfl, upd_same, e3, RpL.mono (same_new hF) _ _ e4⟩ hq⟩
  · obtain ⟨O2, A3, s⟩ := A2.after B
    exact hw cls dd σ H' ρ M' F' O2 fs A3 s xk hq
theorem de_make (Mk : L2.Mk X.K C f) (Fg : FnG X.prog X.w X.K X.mg X.base k f fd ps (toSp X.K n sp)) (hlen : ∀ ds M q e, sp ds M q e → ds.length = n) (hr : Room (k + 1) X.A) (hG : X.A.guards = some []) (hg : Gl X x) (hm : X.mg x = some (.ref C))
    (hb : Binds X.K fd ps []) (tk : Takes X W) (ha : DA X W (e :: es) pl) (hdb : (x == ("__debug__" : Str)) = false := by decide)
    (he : starEach (e :: es) X.env = (false, eval e X.env) :: starEach es X.env := by rfl) (hpl : (backTo pos (starEach es X.env)).any (·.1) = false := by rfl) : DE X W (.Call (.Name x p) (e :: es) [] pos) (dMake C sp pl) := by
  refine ⟨fun pins s σ H Q I ⟨g, ρ, M, F, O, q, w, A, pr, hw, kk⟩ => ?_⟩
  refine wpAny_Call_Name_kw (ld_glob I hg hm ?_ hdb)
  refine PySem.W.callWith_K (h₀ := X.base) I.ok.mod.kin Mk.kp (thn (ha.run pos pins s σ H (fun vs H1 => ∀ a dx, H1 a = none → H1 dx = none → dx ≠ a → toSp X.K n sp (.ref a :: vs) (upd (upd H1 dx (.own a)) a (.ins C dx [])) (fun v H2 => v = .non ∧ Q (.ref a) H2) fun cls d H' => W cls d σ H') I ?_) fun us s1 hh => ?_) he hpl
  · refine ⟨g, ρ, M, F, O, _, w, A, pr, hw, fun vs H1 F1 O1 M1 d1 A1 s1 r1 q1 a dx h1 h2 h3 => ?_⟩
    have hM : M1 a = none := A1.m0 h1
    have q2 := q1 a hM
    exact make_reading h1 h2 h3 A1 (hw.mono s1) r1 (by have := hlen _ _ _ _ q2; rw [List.length_cons] at this; exact this) q2 fun v H2 F2 O2 M2 d2 A2 s2 r2 z => kk v H2 F2 O2 M2 d2 A2 (s1.trans s2) r2 z
  · obtain ⟨vs, H1, I1, r, q1⟩ := hh
    exact ⟨I1.kIn, run_makeG Mk Fg hr hG hb tk I1 r q1⟩
end
end Px

set_option Elab.async false
set_option linter.all false
set_option maxRecDepth 100000
namespace Px
open PySem PySem.Spec PyProof.Rows L2
/-! # instances: their fields, properties, methods -/
theorem look_rel {K : PySem.W.Frag} {F : Hp} {f : Str} {d : D} : ∀ (ns : List Str) (l : List D) (ys : List (Str × V)), ys.map (·.1) = ns → RpL K F l (ys.map (·.2)) → (ns.zip l).lookup f = some d → ∃ v, ys.lookup f = some v ∧ Rp K F d v
  | [], _, _, _, _, h => by
    rw [List.zip_nil_left] at h
    cases h
  | n :: ns, [], _, _, _, h => by
    rw [List.zip_nil_right] at h
    cases h
  | n :: ns, x :: l, [], e, _, _ => by cases e
  | n :: ns, x :: l, (m, v) :: ys, e, r, h => by
    injection e with e1 e2
    have e1 : m = n := e1
    subst e1
    obtain ⟨v', vr, e3, r1, r2⟩ := r
    injection e3 with e4 e5
    subst e4
    subst e5
    rw [List.zip_cons_cons, List.lookup_cons] at h
    rw [List.lookup_cons]
    cases c : f == m with
    | true =>
      rw [c] at h
      cases h
      exact ⟨v, rfl, r1⟩
    | false =>
      rw [c] at h
      exact look_rel ns l ys e2 r2 h
theorem zip_fs : ∀ fs : List (Str × D), (fs.map (·.1)).zip (fs.map (·.2)) = fs
  | [] => rfl
  | (n, d) :: r => by rw [List.map_cons, List.map_cons, List.zip_cons_cons, zip_fs r]
/-- a field of an instance of C, frozen or one's own -/
def fldAt (C : Addr) (f : Str) (d : D) (M : Mm) (k : D → Prop) : Prop := match d with
  | .obj C' ns l => C' = C ∧ ∃ v, (ns.zip l).lookup f = some v ∧ k v
  | .raw (.ref a) => ∃ fs v, M a = some (.ins C fs) ∧ fs.lookup f = some v ∧ k v
  | _ => False
def dFld (C : Addr) (f : Str) (pe : PTE) : PTE := fun w ρ M q => pe w ρ M fun d M1 => fldAt C f d M1 fun v => q v M1
theorem fld_is {K : PySem.W.Frag} {g : Gh} {σ : L2.St} {H : Hp} {ρ : Rho} {M : Mm} {F : Hp} {O : Own} {C : Addr} {f : Str} {d : D} {u : V} {k : D → Prop} (A : Ab K g σ H ρ M F O) (r : Rp K F d u) (h : fldAt C f d M k) :
    ∃ a dx fs v d', u = .ref a ∧ H a = some (.ins C dx fs) ∧ fs.lookup f = some v ∧ Rp K F d' v ∧ k d' := by
  unfold fldAt at h
  split at h
  · obtain ⟨rfl, d', h1, h2⟩ := h
    obtain ⟨a, dx, fs, e, e1, e2, e3⟩ := r
    obtain ⟨v, e4, e5⟩ := look_rel _ _ fs e2 e3 h1
    exact ⟨a, dx, fs, v, d', e, A.sub _ _ e1, e4, e5, h2⟩
  · rename_i a
    obtain ⟨fs, d', h1, h2, h3⟩ := h
    obtain ⟨dx, ys, e1, e2, e3, e4⟩ := A.mu a _ h1
    obtain ⟨v, e5, e6⟩ := look_rel (fs.map (·.1)) (fs.map (·.2)) ys e3 e4 (by rw [zip_fs]; exact h2)
    exact ⟨a, dx, ys, v, d', r, e1, e5, e6, h3⟩
  · exact h.elim
/-- a field is set -/
def putFD (f : Str) (v : D) : List (Str × D) → List (Str × D)
  | [] => [(f, v)]
  | (g, x) :: r => if g = f then (g, v) :: r else (g, x) :: putFD f v r
theorem put_rel {K : PySem.W.Frag} {F : Hp} {f : Str} {d : D} {v : V} (hv : Rp K F d v) : ∀ (fs : List (Str × D)) (ys : List (Str × V)), ys.map (·.1) = fs.map (·.1) → RpL K F (fs.map (·.2)) (ys.map (·.2)) →
    (putF f v ys).map (·.1) = (putFD f d fs).map (·.1) ∧ RpL K F ((putFD f d fs).map (·.2)) ((putF f v ys).map (·.2))
  | [], [], _, _ => ⟨rfl, v, [], rfl, hv, rfl⟩
  | [], _ :: _, e, _ => by cases e
  | _ :: _, [], e, _ => by cases e
  | (n, x) :: fs, (m, y) :: ys, e, r => by
    injection e with e1 e2
    have e1 : m = n := e1
    subst e1
    obtain ⟨v', vr, e3, r1, r2⟩ := r
    injection e3 with e4 e5
    subst e4
    subst e5
    unfold putFD putF
    by_cases c : m = f
    · rw [if_pos c, if_pos c]
      exact ⟨by rw [List.map_cons, List.map_cons, e2], v, _, rfl, hv, r2⟩
    · rw [if_neg c, if_neg c]
      obtain ⟨i1, i2⟩ := put_rel (f := f) hv fs ys e2 r2
      exact ⟨by rw [List.map_cons, List.map_cons, i1], y, _, rfl, r1, i2⟩
def insAt (C : Addr) (d : D) (M : Mm) (k : Addr → List (Str × D) → Prop) : Prop := match d with
  | .raw (.ref a) => ∃ fs, M a = some (.ins C fs) ∧ k a fs
  | _ => False
theorem insAt_of {C : Addr} {d : D} {M : Mm} {k : Addr → List (Str × D) → Prop} (h : insAt C d M k) : ∃ a fs, d = .raw (.ref a) ∧ M a = some (.ins C fs) ∧ k a fs := by
  unfold insAt at h
  split at h
  · obtain ⟨fs, h1, h2⟩ := h
    exact ⟨_, fs, rfl, h1, h2⟩
  · exact h.elim
def dFldSet (C : Addr) (f : Str) (pe po : PTE) : PTS := fun w P ρ M => pe w ρ M fun d M1 => po w ρ M1 fun o M2 => insAt C o M2 fun a fs => fs.length < 1000 ∧ P.nx ρ (updM M2 a (.ins C (putFD f d fs)))
section
variable {X : Cx} {W : WX} {C : Addr} {f : Str} {e o value : Expr} {pos pos' : Pos} {pe po : PTE}
theorem de_fld (hc : Cls X.K C) (hn : NoAttr X.K C f) (he : DE X W e pe) (hb : attributeBase e f X.env (eval e X.env) = eval e X.env := by rfl) : DE X W (.Attribute e f pos) (dFld C f pe) :=
  pe_imp (pe_fld he hb) fun σ H Q ⟨g, ρ, M, F, O, q, w, A, pr, hw, k⟩ => ⟨g, ρ, M, F, O, _, w, A, pr, hw, fun v H1 F1 O1 M1 d A1 s1 r1 q1 => by
    obtain ⟨a, dx, fs, u, d', e1, e2, e3, e4, e5⟩ := fld_is A1 r1 q1
    exact ⟨a, C, dx, fs, u, e1, e2, hc, hn, e3, k u H1 F1 O1 M1 d' A1 s1 e4 e5⟩⟩
theorem ds_fldSet (hc : Cls X.K C) (hn : NoAttr X.K C f) (ho : DE X W o po) (hv : DE X W value pe) (hs : swapsWith value (some (.Attribute o f pos')) pos.line X.env = pure false := by rfl) : DS X W (.Assign [.Attribute o f pos'] value pos) (dFldSet C f pe po) :=
  ps_imp (ps_fld ho hv hs) fun D σ H ⟨g, ρ, M, F, O, P, w, A, h, hw, k1, _⟩ => ⟨g, ρ, M, F, O, _, w, A, h, hw, fun v H1 F1 O1 M1 d A1 s1 r1 q1 => ⟨g, ρ, M1, F1, O1, _, w, A1, q1, hw.mono s1, fun u H2 F2 O2 M2 z A2 s2 r2 q2 => by
    obtain ⟨a, fs, rfl, hM, hl, q3⟩ := insAt_of q2
    obtain ⟨dx, ys, e1, e2, e3, e4⟩ := A2.mu a _ hM
    have e : u = .ref a := r2
    obtain ⟨i1, i2⟩ := put_rel (f := f) (Rp.mono s2 _ _ r1) fs ys e3 e4
    have hlen : ys.length = fs.length := by
      have := congrArg List.length e3
      rw [List.length_map, List.length_map] at this
      exact this
    refine ⟨a, C, dx, ys, e, e1, hc, hn, by omega, ?_⟩
    exact k1 σ _ ρ _ F2 O2 (A2.setMo hM e2 (o := .ins C dx (putF f v ys)) (mo' := .ins C (putFD f d fs)) ⟨dx, _, upd_same, e2, i1, i2⟩) (s1.trans s2) q3⟩⟩
end
end Px

set_option Elab.async false
set_option linter.all false
set_option maxRecDepth 100000
namespace Px
open PySem PySem.Spec PyProof.Rows L2
/-! # instances: properties that return a field; methods -/
theorem look_none {m : Str} : ∀ ys : List (Str × V), m ∉ ys.map (·.1) → ys.lookup m = none
  | [], _ => rfl
  | (n, v) :: r, h => by
    rw [List.lookup_cons]
    have h1 : m ≠ n := fun e => h (by rw [e]; exact List.mem_cons_self)
    rw [beq_eq_false_iff_ne.mpr h1]
    exact look_none r fun z => h (List.mem_cons_of_mem _ z)
/-- an instance of C, none of whose fields is called m -/
def insOf (C : Addr) (m : Str) (d : D) (M : Mm) : Prop := match d with
  | .obj C' ns _ => C' = C ∧ m ∉ ns
  | .raw (.ref a) => ∃ fs, M a = some (.ins C fs) ∧ m ∉ fs.map (·.1)
  | _ => False
theorem insOf_is {K : PySem.W.Frag} {g : Gh} {σ : L2.St} {H : Hp} {ρ : Rho} {M : Mm} {F : Hp} {O : Own} {C : Addr} {m : Str} {d : D} {u : V} (A : Ab K g σ H ρ M F O) (r : Rp K F d u) (h : insOf C m d M) :
    ∃ a dx fs, u = .ref a ∧ H a = some (.ins C dx fs) ∧ fs.lookup m = none := by
  unfold insOf at h
  split at h
  · obtain ⟨rfl, h1⟩ := h
    obtain ⟨a, dx, fs, e, e1, e2, _⟩ := r
    exact ⟨a, dx, fs, e, A.sub _ _ e1, look_none fs (by rw [e2]; exact h1)⟩
  · rename_i a
    obtain ⟨fs, h1, h2⟩ := h
    obtain ⟨dx, ys, e1, e2, e3, _⟩ := A.mu a _ h1
    exact ⟨a, dx, ys, r, e1, look_none ys (by rw [e3]; exact h2)⟩
  · exact h.elim
def dMeth (C : Addr) (m : Str) (sp : PSp) (po : PTE) (pl : PTA) : PTE := fun w ρ M q => po w ρ M fun d M1 => insOf C m d M1 ∧ pl w ρ M1 fun ds M2 => sp (d :: ds) M2 q fun cls fs M3 => w cls fs ρ M3
section
variable {X : Cx} {W : WX} {k n : Nat} {f g p C : Addr} {fd : FuncData} {ps : List Str} {sp : PSp} {m pf : Str} {pos apos : Pos} {e o : Expr} {es : List Expr} {pe po : PTE} {pl : PTA}
/-- e.m, a property whose getter returns the field pf -/
theorem de_prop (hc : Cls X.K C) (hp : PropOf X.K C m p g) (Fo : FnOk X.prog X.w X.K X.mg X.base (fun _ _ _ _ _ _ => False) k g fd ps (getSp C pf)) (hr : Room (k + 1) X.A) (hb : Binds X.K fd ps []) (he : DE X W e pe)
    (hab : attributeBase e m X.env (eval e X.env) = eval e X.env := by rfl) : DE X W (.Attribute e m pos) (dFld C pf pe) :=
  pe_imp (pe_prop (E := fun _ _ _ => False) he hc hp Fo hr hb .nil (fun _ _ _ _ _ _ _ z => z.elim) hab) fun σ H Q ⟨g, ρ, M, F, O, q, w, A, pr, hw, kk⟩ => ⟨g, ρ, M, F, O, _, w, A, pr, hw, fun v H1 F1 O1 M1 d A1 s1 r1 q1 => by
    obtain ⟨a, dx, fs, u, d', e1, e2, e3, e4, e5⟩ := fld_is A1 r1 q1
    exact ⟨a, dx, fs, e1, e2, a, dx, fs, u, rfl, e2, e3, kk u H1 F1 O1 M1 d' A1 s1 e4 e5⟩⟩
theorem meth_reading {K : PySem.W.Frag} {g : Gh} {σ : L2.St} {H : Hp} {ρ : Rho} {M : Mm} {F : Hp} {O : Own} {w : PWi} {q : PQ} {d : D} {u : V} {ds : List D} {vs : List V} {Q : VK} (A : Ab K g σ H ρ M F O) (hw : WOk K g F W w)
    (ru : Rp K F d u) (r : RpL K F ds vs) (hl : (d :: ds).length = n) (h : sp (d :: ds) M q fun cls fs M2 => w cls fs ρ M2) (k : ∀ v H' F' O' M' d, Ab K g σ H' ρ M' F' O' → Same F F' → Rp K F' d v → q d M' → Q v H') :
    toSp K n sp (u :: vs) H Q fun cls d H' => W cls d σ H' := by
  have z := call_reading (dd := []) (dvs := []) (ps := List.replicate n "") (W := W) (List.length_replicate ..) (fun _ => rfl) A hw (show RpL K F (d :: ds) (u :: vs) from ⟨u, vs, rfl, ru, r⟩) (by rw [List.append_nil]; exact hl) (by rw [List.append_nil]; exact h) k
  rw [List.append_nil] at z
  exact z
theorem de_meth {pt : Sem Bool} (hc : Cls X.K C) (hm : Meth X.K C m f) (Fg : FnG X.prog X.w X.K X.mg X.base k f fd ps (toSp X.K n sp)) (hlen : ∀ ds M q e, sp ds M q e → ds.length = n) (hr : Room k X.A) (hG : X.A.guards = some []) (hb : Binds X.K fd ps [])
    (tk : Takes X W) (ho : DE X W o po) (ha : DA X W (e :: es) pl) (hst : starEach (e :: es) X.env = (false, eval e X.env) :: starEach es X.env := by rfl) (hpl : (backTo pos (starEach es X.env)).any (·.1) = false := by rfl)
    (ht : eval (.Call (.Attribute o m apos) (e :: es) [] pos) X.env = (do
      let ov ← eval o X.env
      standAt apos.atName
      let (f, first) ← holding [ov] (getMethod ov m pt)
      callWith pos f first (backTo pos (starEach (e :: es) X.env)) (backToKw pos (keywordEach [] X.env))) := by rfl) :
    DE X W (.Call (.Attribute o m apos) (e :: es) [] pos) (dMeth C m sp po pl) := by
  refine ⟨fun pins s σ H Q I ⟨g, ρ, M, F, O, q, w, A, pr, hw, kk⟩ => ?_⟩
  refine PySem.W.methodCall_KW (pl := pt) (thn (ho.run pins s σ H (fun x H1 => ∃ a dx fs, x = .ref a ∧ H1 a = some (.ins C dx fs) ∧ fs.lookup m = none ∧ realA X.K W pl σ H1 fun vs H2 => toSp X.K n sp (x :: vs) H2 Q fun cls d H' => W cls d σ H') I ?_) fun u s1 hh => ?_) ht
  · refine ⟨g, ρ, M, F, O, _, w, A, pr, hw, fun v H1 F1 O1 M1 d A1 s1 r1 q1 => ?_⟩
    obtain ⟨hi, q1⟩ := q1
    obtain ⟨a, dx, fs, e1, e2, e3⟩ := insOf_is A1 r1 hi
    refine ⟨a, dx, fs, e1, e2, e3, g, ρ, M1, F1, O1, _, w, A1, q1, hw.mono s1, fun vs H2 F2 O2 M2 ds A2 s2 r2 q2 => ?_⟩
    exact meth_reading A2 ((hw.mono s1).mono s2) (Rp.mono s2 _ _ r1) r2 (hlen _ _ _ _ q2) q2 fun v3 H3 F3 O3 M3 d3 A3 s3 r3 q3 => kk v3 H3 F3 O3 M3 d3 A3 ((s1.trans s2).trans s3) r3 q3
  · obtain ⟨x, H1, I1, rx, a, dx, fs, ex, ea, l, q1⟩ := hh
    subst ex
    have eu : u = Value.ref a := rx
    subst eu
    refine getmeth_ok I1 ea hc hm l ?_
    refine PySem.W.callWith_K (first := [.ref a]) (h₀ := X.base) I1.ok.mod.kin hm.kp (thn (ha.run pos pins s1 σ H1 _ I1 q1) fun us s2 hh2 => ?_) hst hpl
    obtain ⟨vs, H2, I2, r2, q2⟩ := hh2
    refine ⟨I2.kIn, ?_⟩
    have z := run_g (us := .ref a :: us) (vs := .ref a :: vs) (ds := []) (dvs := []) Fg hr hG hb .nil tk I2 (.cons rfl r2) (by rw [List.append_nil]; exact q2)
    exact z
theorem de_meth0 {pt : Sem Bool} (hc : Cls X.K C) (hm : Meth X.K C m f) (Fg : FnG X.prog X.w X.K X.mg X.base k f fd ps (toSp X.K n sp)) (hlen : ∀ ds M q e, sp ds M q e → ds.length = n) (hr : Room k X.A) (hG : X.A.guards = some []) (hb : Binds X.K fd ps [])
    (tk : Takes X W) (ho : DE X W o po)
    (ht : eval (.Call (.Attribute o m apos) [] [] pos) X.env = (do
      let ov ← eval o X.env
      standAt apos.atName
      let (f, first) ← holding [ov] (getMethod ov m pt)
      callWith pos f first (backTo pos (starEach [] X.env)) (backToKw pos (keywordEach [] X.env))) := by rfl) :
    DE X W (.Call (.Attribute o m apos) [] [] pos) (dMeth C m sp po dNil) := by
  refine ⟨fun pins s σ H Q I ⟨g, ρ, M, F, O, q, w, A, pr, hw, kk⟩ => ?_⟩
  refine PySem.W.methodCall_KW (pl := pt) (thn (ho.run pins s σ H (fun x H1 => ∃ a dx fs, x = .ref a ∧ H1 a = some (.ins C dx fs) ∧ fs.lookup m = none ∧ toSp X.K n sp [x] H1 Q fun cls d H' => W cls d σ H') I ?_) fun u s1 hh => ?_) ht
  · refine ⟨g, ρ, M, F, O, _, w, A, pr, hw, fun v H1 F1 O1 M1 d A1 s1 r1 q1 => ?_⟩
    obtain ⟨hi, q1⟩ := q1
    obtain ⟨a, dx, fs, e1, e2, e3⟩ := insOf_is A1 r1 hi
    have q1 : sp [d] M1 q fun cls fs M3 => w cls fs ρ M3 := q1
    refine ⟨a, dx, fs, e1, e2, e3, ?_⟩
    exact meth_reading A1 (hw.mono s1) r1 (show RpL X.K F1 [] [] from rfl) (hlen _ _ _ _ q1) q1 fun v3 H3 F3 O3 M3 d3 A3 s3 r3 q3 => kk v3 H3 F3 O3 M3 d3 A3 (s1.trans s3) r3 q3
  · obtain ⟨x, H1, I1, rx, a, dx, fs, ex, ea, l, q1⟩ := hh
    subst ex
    have eu : u = Value.ref a := rx
    subst eu
    refine getmeth_ok I1 ea hc hm l ?_
    exact PySem.W.callWith_K0 (first := [.ref a]) I1.kIn hm.kp (run_g (us := [.ref a]) (vs := [.ref a]) (ds := []) (dvs := []) Fg hr hG hb .nil tk I1 (.cons rfl .nil) q1)
end
end Px

set_option Elab.async false
set_option linter.all false
set_option maxRecDepth 100000
namespace Px
open PySem PySem.Spec PyProof.Rows L2
/-! # exceptions as data: isinstance, attributes -/
/-- what the text says of an own exception class -/
structure ExC (K : PySem.W.Frag) (C : Addr) : Prop where
  cl : (PySem.W.clsIn K C).isSome = true
  ga : PySem.W.findIn K (.ref C) "__getattribute__" = some (some (.builtin "BaseException.__getattribute__"))
  gt : PySem.W.findIn K (.ref C) "__getattr__" = some none
  su : PySem.W.subIn K (.ref C) (.type "BaseException") = some true
  hd : PySem.W.hasDictIn K C = true
  ca : PySem.W.findIn K (.ref C) "__class__" = some (some (.builtin "object.__class__"))
  cn : PySem.W.specialIn K (.builtin "object.__class__") "__get__" = some (some (.builtin "getset_descriptor.__get__"))
  ct : PySem.W.takesIn K (.builtin "object.__class__") = some true
  cm : PySem.W.mroIn K C (.type "object") = some true
section
variable {X : Cx} {pins : List (Addr × Obj)} {σ : L2.St} {H : Hp} {s : Shared} {a C : Addr} {d : Option Addr}
theorem exv_inst (I : Inv X pins σ H s) (h : H a = some (ExV (.ref C) d a)) (hd : ∀ b, d = some b → ∃ o, s.heap.get? b = some o) : ∃ ox od, PySem.W.InstAt s.heap a ox C od ∧ (∀ b, d = some b → s.heap.get? b = od) ∧ (d = none → od = none) := by
  obtain ⟨⟨ox, vs, e1, ⟨e2, e3⟩, e4⟩, _, _⟩ := I.hok a _ h
  have no : PySem.W.notCls ox = true := by unfold PySem.W.notCls; rw [e4]
  cases d with
  | none => exact ⟨ox, none, ⟨e1, e2, no, by rw [e3]; trivial⟩, fun _ z => (nomatch z), fun _ => rfl⟩
  | some b =>
    obtain ⟨o, ho⟩ := hd b rfl
    exact ⟨ox, some o, ⟨e1, e2, no, by rw [e3]; exact ho⟩, fun b' z => by cases z; exact ho, fun z => nomatch z⟩
/-- isinstance(x, c), x such an exception -/
def rIsX (K : PySem.W.Frag) : List V → Hp → VK → Prop := fun xs H Q => ∃ (a C : Addr) (d : Option Addr) (c : V) (cv : Value) (b : Bool), xs = [.ref a, c] ∧ H a = some (ExV (.ref C) d a) ∧ (∀ b, d = some b → ∃ fs, H b = some (.xd fs)) ∧ ExC K C ∧
  (∀ u, RelV c u → u = cv) ∧ PySem.W.kitOne K (.ref C) cv = some b ∧ Q (.bl b) H
theorem xd_at (I : Inv X pins σ H s) {b : Addr} {fs : List (Str × V)} (h : H b = some (.xd fs)) : ∃ o, s.heap.get? b = some o := by
  obtain ⟨_, ⟨o, _, _, e, _⟩, _⟩ := (show ObjOk X.prog X.w H s.heap b (.xd fs) from I.hok b _ h)
  exact ⟨o, e⟩
theorem call_isX : CallR X (.builtin "isinstance") fun xs H Q => rIsi X.K xs H Q ∨ rIsX X.K xs H Q := by
  intro pins s σ H xs us Q I r h
  rcases h with h | ⟨a, C, d, c, cv, b, rfl, h1, h2, T, h3, h4, q⟩
  · exact call_isi pins s σ H xs us Q I r h
  · cases r with
    | cons rx rr =>
      cases rr with
      | cons rt rr =>
        cases rr
        cases rx
        obtain rfl := h3 _ rt
        obtain ⟨ox, od, J, _⟩ := exv_inst I h1 fun b e => let ⟨fs, e2⟩ := h2 b e; xd_at I e2
        exact PySem.W.kia_one (PySem.W.kitx_exc (ox := ox) (od := od) T.cl T.ga T.gt T.su T.ca T.cn T.ct T.cm) I.kIn J h4 (fun z => nomatch z) fun tk => ⟨.bl b, H, I.kept (t' := tk) fun _ _ z => z, rfl, q⟩
end
def fIsE (tb : Addr → Bool → Prop) : F1 := fun d k => match d with
  | .exv _ (.ref C) _ _ _ => ∃ b, tb C b ∧ k (.bl b)
  | d => (tyD d).isSome = true ∧ k (.bl false)
section
variable {X : Cx} {W : WX} {C : Addr} {a e : Expr} {pa pe : PTE} {p p2 pos : Pos} {x2 : Str}
theorem de_isE {tb : Addr → Bool → Prop} (hE : ∀ D b, tb D b → ExC X.K D ∧ PySem.W.kitOne X.K (.ref D) (.ref C) = some b) (ht : ∀ t ∈ tys, PySem.W.kitOne X.K (.type t) (.ref C) = some false) (hg : Gl X "isinstance") (hm : X.mg "isinstance" = none) (hg2 : Gl X x2) (hm2 : X.mg x2 = some (.ref C)) (ha : DE X W a pa)
    (hd2 : (x2 == ("__debug__" : Str)) = false := by decide) (he : starEach [a, .Name x2 p2] X.env = (false, eval a X.env) :: starEach [.Name x2 p2] X.env := by rfl) (he2 : starEach [.Name x2 p2] X.env = (false, eval (.Name x2 p2) X.env) :: starEach [] X.env := by rfl)
    (hpl : (backTo pos (starEach [.Name x2 p2] X.env)).any (·.1) = false := by rfl) : DE X W (.Call (.Name "isinstance" p) [a, .Name x2 p2] [] pos) (dB1 (fIsE tb) pa) :=
  pe_imp (pe_callB call_isX hg hm (by decide +kernel) (pa_cons ha (pa_cons (pe_glob (v := .ref C) hg2 hm2 rfl hd2) pa_nil he2) he) (by decide) (by decide) he hpl) fun σ H Q ⟨g, ρ, M, F, O, q, w, A, pr, hw, k⟩ =>
  ⟨g, ρ, M, F, O, _, w, A, pr, hw, fun v H1 F1 O1 M1 d A1 s1 r1 q1 => by
    have oth : ∀ t, tyD d = some t → q (.bl false) M1 → rIsi X.K [v, .ref C] H1 Q ∨ rIsX X.K [v, .ref C] H1 Q := fun t e q2 =>
      .inl ⟨v, .ref C, _, _, false, rfl, .own C, vw_ty A1 (.inl r1) e, ht t (tyD_mem e), k (.bl false) H1 F1 O1 M1 (.bl false) A1 s1 rfl q2⟩
    cases d with
    | exv b cls dd ns l =>
      cases cls with
      | ref D =>
        obtain ⟨t, t1, q2⟩ := q1
        obtain ⟨rfl, h1, h2⟩ := r1
        obtain ⟨T, kt⟩ := hE D t t1
        refine .inr ⟨b, D, dd, .ref C, .ref C, t, rfl, A1.sub _ _ h1, fun b' e => ?_, T, fun u ru => ru, kt, k (.bl t) H1 F1 O1 M1 (.bl t) A1 s1 rfl q2⟩
        rcases h2 with ⟨z, _⟩ | ⟨b2, ys, z, h3, _⟩
        · rw [z] at e; cases e
        · rw [z] at e; cases e; exact ⟨ys, A1.sub _ _ h3⟩
      | _ => exact (Bool.false_ne_true q1.1).elim
    | non => exact oth _ rfl q1.2
    | bl b => exact oth _ rfl q1.2
    | int i => exact oth _ rfl q1.2
    | str s => exact oth _ rfl q1.2
    | tup l => exact oth _ rfl q1.2
    | lst l => exact oth _ rfl q1.2
    | dic ks vs => exact oth _ rfl q1.2
    | scr ns => exact oth _ rfl q1.2
    | raw v => exact (Bool.false_ne_true q1.1).elim
    | obj _ _ _ => exact (Bool.false_ne_true q1.1).elim
    | clo _ _ _ _ _ => exact (Bool.false_ne_true q1.1).elim⟩
/-! ## e.at -/
def lookN (n : Str) : List Str → List D → Option D
  | m :: ns, d :: l => if n = m then some d else lookN n ns l
  | _, _ => none
theorem lookN_rp {K : PySem.W.Frag} {F : Hp} {n : Str} {d : D} : ∀ {ys : List (Str × V)} {l : List D}, RpL K F l (ys.map (·.2)) → lookN n (ys.map (·.1)) l = some d → ∃ v, ys.lookup n = some v ∧ Rp K F d v
  | [], _, _, h => by cases h
  | (m, v) :: ys, [], r, h => by cases h
  | (m, v) :: ys, c :: l, ⟨x, t, e1, r1, r2⟩, h => by
    have e1 : v :: ys.map (·.2) = x :: t := e1
    cases e1
    have h : (if n = m then some c else lookN n (ys.map (·.1)) l) = some d := h
    by_cases z : n = m
    · rw [if_pos z] at h
      cases h
      exact ⟨v, by rw [List.lookup_cons, z]; simp, r1⟩
    · rw [if_neg z] at h
      obtain ⟨u, h1, h2⟩ := lookN_rp r2 h
      exact ⟨u, by rw [List.lookup_cons, beq_false_of_ne z]; exact h1, h2⟩
def dXf (T : Addr → Prop) (n : Str) (pe : PTE) : PTE := fun w ρ M q => pe w ρ M fun d M' => match d with
  | .exv _ (.ref D) _ ns l => T D ∧ ∃ v, lookN n ns l = some v ∧ q v M'
  | _ => False
theorem de_xf {T : Addr → Prop} {n : Str} (hT : ∀ D, T D → ExC X.K D ∧ PySem.W.findIn X.K (.ref D) n = some none) (he : DE X W e pe) (hb : attributeBase e n X.env (eval e X.env) = eval e X.env := by rfl) : DE X W (.Attribute e n pos) (dXf T n pe) := by
  refine ⟨fun pins s σ H Q I ⟨g, ρ, M, F, O, q, w, A, pr, hw, k⟩ => ?_⟩
  refine attr_of hb (thn (he.run pins s σ H (fun v H1 => ∃ d F1 O1 M1, Ab X.K g σ H1 ρ M1 F1 O1 ∧ Same F F1 ∧ Rp X.K F1 d v ∧ (match d with | .exv _ (.ref D) _ ns l => T D ∧ ∃ v, lookN n ns l = some v ∧ q v M1 | _ => False)) I
    ⟨g, ρ, M, F, O, _, w, A, pr, hw, fun v H1 F1 O1 M1 d A1 s1 r1 q1 => ⟨d, F1, O1, M1, A1, s1, r1, q1⟩⟩) fun u sb hh => ?_)
  obtain ⟨v, H1, I1, rv, d, F1, O1, M1, A1, sF, r1, q1⟩ := hh
  split at q1
  · rename_i b D dd ns l
    obtain ⟨t, z, hz, q2⟩ := q1
    obtain ⟨rfl, h1, h2⟩ := r1
    obtain rfl : u = Value.ref b := rv
    rcases h2 with ⟨_, e2, _⟩ | ⟨b2, ys, rfl, h3, rfl, r2⟩
    · rw [e2] at hz; cases hz
    · obtain ⟨v, lv, rz⟩ := lookN_rp r2 hz
      obtain ⟨T1, T2⟩ := hT D t
      have hx : ObjOk X.prog X.w H1 sb.heap b2 (.xd ys) := I1.hok b2 _ (A1.sub _ _ h3)
      obtain ⟨mA, hns, hr⟩ := hx
      obtain ⟨od, ho, hl⟩ := lookIn_ns hns
      obtain ⟨u, hu, ru⟩ := RelO.some_of (v := v) (o := mA n) (by rw [← lv]; exact hr n)
      obtain ⟨ox, od', J, j1, _⟩ := exv_inst I1 (A1.sub _ _ h1) fun b e => by cases e; exact ⟨_, ho⟩
      have eo := j1 b2 rfl
      rw [ho] at eo
      subst eo
      exact HandSPX.exc_get I1.kIn J T1.ga T1.gt T1.su (PySem.W.findObj_own T1.hd T2 rfl (by rw [hl, hu])) (handed_of ru) ⟨v, H1, I1.tok _, ru, k v H1 F1 O1 M1 z A1 sF rz q2⟩
  · exact q1.elim
end
/-! ## xs.count(x), xs.index(x) over bools -/
def rCountD (K : PySem.W.Frag) : V → List V → Hp → VK → Prop := fun x xs H Q => ∃ (a : Addr) (y : V) (d : PyData) (ds : List PyData), x = V.ref a ∧ xs = [y] ∧ Dp K H (V.ref a) (.list ds) ∧ Dp K H y d ∧
  SeqAt.shaped (.list ds) = true ∧ SeqAt.shaped d = true ∧ PyData.plainAll ds = true ∧ d.plain = true ∧ Q (.int ((ds.countP fun y => PyData.eqv y d : Nat) : Int)) H
theorem mt_countD {X : Cx} (hu : X.A.units + 65 < cLine) : MtR X "list.count" (rCountD X.K) := by
  intro pins s σ H x xs v us Q I rx rxs h
  obtain ⟨a, y, d, ds, rfl, rfl, hl, hy, s1, s2, p1, p2, q⟩ := h
  cases rx
  cases rxs with
  | cons ry rt =>
    cases rt
    obtain ⟨bs, r1⟩ := Dp.reads I d y _ hy ry
    have room : X.A.units + 1 + min (PyData.depthAll ds) d.depth < cLine := room_in_shaped s2 hu
    cases hl with
    | lst hs ha =>
      obtain ⟨its, rv, il, _⟩ := I.list hs
      obtain ⟨as, r2⟩ := Dp.readsAll I ds _ its ha rv
      exact SeqAt.count_list_data il.isList (by simpa using r2) r1 p1 p2 room ⟨.int _, H, I.tok _, ⟨s.toks, rfl⟩, q⟩
def fCntB : F2 := fun x y k => match x, y with
  | .lst l, .bl b => l.length ≤ 1000 ∧ ∃ bs, boolsOf l = some bs ∧ k (.int ((bs.count b : Nat) : Int))
  | _, _ => False
def fIdxB : F2 := fun x y k => match x, y with
  | .lst l, .bl b => l.length ≤ 1000 ∧ ∃ bs, boolsOf l = some bs ∧ b ∈ bs ∧ k (.int ((bs.idxOf b : Nat) : Int))
  | _, _ => False
def dMt (f : F2) (po pe : PTE) : PTE := dOp f po pe
section
variable {X : Cx} {W : WX} {o e : Expr} {po pe : PTE} {apos cpos : Pos}
theorem bools_py : ∀ bs : List Bool, toPyL (bs.map D.bl) = bs.map PyData.bool
  | [] => rfl
  | b :: r => by show PyData.bool b :: toPyL (r.map D.bl) = _; rw [bools_py r]; rfl
theorem bools_plain : ∀ bs : List Bool, PyData.plainAll (bs.map PyData.bool) = true
  | [] => rfl
  | b :: r => by show (true && PyData.plainAll (r.map PyData.bool)) = true; rw [bools_plain r]; rfl
theorem bools_ok (bs : List Bool) : okP 2 (.lst (bs.map D.bl)) := fun d hd => by
  obtain ⟨b, _, rfl⟩ := List.mem_map.mp hd
  trivial
theorem eqv_bool (a b : Bool) : PyData.eqv (.bool a) (.bool b) = (a == b) := by cases a <;> cases b <;> rfl
theorem bools_count (b : Bool) (bs : List Bool) : (bs.map PyData.bool).countP (fun y => PyData.eqv y (.bool b)) = bs.count b := by
  rw [List.countP_map]
  unfold List.count
  congr 1
theorem vw_tyL {K : PySem.W.Frag} {g : Gh} {σ : L2.St} {H : Hp} {ρ : Rho} {M : Mm} {F : Hp} {O : Own} {l : List D} {v : V} (A : Ab K g σ H ρ M F O) (r : Vw K σ ρ F (.lst l) v) : tyV K "list" v H := by
  obtain ⟨a, xs, e, h, _⟩ := r.lst A
  rw [e]
  exact .inl ⟨rfl, xs, .inl (.inl h)⟩
/-- o.count(e), o.index(e), o a list -/
def dMtL (f : F2) (po pe : PTE) : PTE := fun w ρ M q => po w ρ M fun x M1 => (∃ l, x = .lst l) ∧ pe w ρ M1 fun y M2 => f x y fun z => q z M2
theorem mtl_run {r : V → List V → Hp → VK → Prop} {f : F2} (hf : OpF X.K (fun x y H Q => r x [y] H Q) f) {σ : L2.St} {H : Hp} {Q : VK} (h : real X.K W (dMtL f po pe) σ H Q) :
    tBM X.K "list" r (realO X.K W po) (tCons (realO X.K W pe) tNil) σ H Q := by
  obtain ⟨g, ρ, M, F, O, q, w, A, p, hw, k⟩ := h
  refine ⟨g, ρ, M, F, O, _, w, A, p, hw, fun v H1 F1 O1 M1 d A1 s1 r1 ⟨⟨l, e⟩, q1⟩ => ⟨by subst e; exact vw_tyL A1 r1, ?_⟩⟩
  refine ⟨g, ρ, M1, F1, O1, _, w, A1, q1, hw.mono s1, fun u H2 F2 O2 M2 y A2 s2 r2 q2 => ?_⟩
  exact hf g σ H2 ρ M2 F2 O2 d y v u _ Q A2 (r1.mono s2) r2 q2 fun z w3 H3 F3 O3 A3 s3 r3 q3 => k w3 H3 F3 O3 M2 z A3 ((s1.trans s2).trans s3) r3 q3
theorem de_cntB (hu : X.A.units + 65 < cLine) (ho : DO X W o po) (he : DO X W e pe) (hbase : attributeBase o "count" X.env (eval o X.env) = eval o X.env := by rfl)
    (hfew : ((backTo cpos (starEach [e] X.env)).all (fun x => !x.1) && (backToKw cpos (keywordEach [] X.env)).all (fun x => x.1.isSome)
      && decide ([e].length + ([] : List Keyword).length + (if ([] : List Keyword).isEmpty then 0 else 1) < 30)) = true := by rfl)
    (hline : (apos.endLine == cpos.line) = true := by rfl) (hs : starEach [e] X.env = (false, eval e X.env) :: starEach [] X.env := by rfl) (hplain : (backTo cpos (starEach [] X.env)).any (·.1) = false := by rfl) :
    DE X W (.Call (.Attribute o "count" apos) [e] [] cpos) (dMtL fCntB po pe) :=
  pe_imp (pe_bm PySem.F.plainAttrs_list PySem.F.slot_list_count PySem.F.type_list_count (mt_countD hu) ho (pa_cons he pa_nil hs) hbase hfew hline hs hplain) fun σ H Q h => mtl_run (by
    intro g σ H ρ M F O x y v u k Q A rx ry hh c
    unfold fCntB at hh
    split at hh
    · rename_i l b
      obtain ⟨hl, bs, e1, hk⟩ := hh
      have e2 := boolsOf_eq e1
      subst e2
      obtain ⟨a, xs, rfl, h1, h2⟩ := rx.lst A
      have dp := vw_dp A (bools_ok bs) rx
      have e3 : toPy (.lst (bs.map D.bl)) = .list (bs.map PyData.bool) := congrArg PyData.list (bools_py bs)
      rw [e3] at dp
      have hy := vw_dp A (show okP 0 (.bl b) from trivial) ry
      refine ⟨a, u, .bool b, bs.map PyData.bool, rfl, rfl, dp, hy, ?_, rfl, bools_plain bs, rfl, ?_⟩
      · have := shaped_ok (bools_ok bs) (by decide)
        rw [e3] at this
        exact this
      · rw [bools_count]
        exact c (.int ((bs.count b : Nat) : Int)) _ H F O A (Same.refl F) rfl hk
    · exact hh.elim) h
theorem de_idxB (hu : X.A.units + 65 < cLine) (ho : DO X W o po) (he : DO X W e pe) (hbase : attributeBase o "index" X.env (eval o X.env) = eval o X.env := by rfl)
    (hfew : ((backTo cpos (starEach [e] X.env)).all (fun x => !x.1) && (backToKw cpos (keywordEach [] X.env)).all (fun x => x.1.isSome)
      && decide ([e].length + ([] : List Keyword).length + (if ([] : List Keyword).isEmpty then 0 else 1) < 30)) = true := by rfl)
    (hline : (apos.endLine == cpos.line) = true := by rfl) (hs : starEach [e] X.env = (false, eval e X.env) :: starEach [] X.env := by rfl) (hplain : (backTo cpos (starEach [] X.env)).any (·.1) = false := by rfl) :
    DE X W (.Call (.Attribute o "index" apos) [e] [] cpos) (dMtL fIdxB po pe) :=
  pe_imp (pe_bm PySem.F.plainAttrs_list PySem.F.slot_list_index PySem.F.type_list_index (mt_indexD hu) ho (pa_cons he pa_nil hs) hbase hfew hline hs hplain) fun σ H Q h => mtl_run (by
    intro g σ H ρ M F O x y v u k Q A rx ry hh c
    unfold fIdxB at hh
    split at hh
    · rename_i l b
      obtain ⟨hl, bs, e1, hb, hk⟩ := hh
      have e2 := boolsOf_eq e1
      subst e2
      obtain ⟨a, xs, rfl, h1, h2⟩ := rx.lst A
      have dp := vw_dp A (bools_ok bs) rx
      have e3 : toPy (.lst (bs.map D.bl)) = .list (bs.map PyData.bool) := congrArg PyData.list (bools_py bs)
      rw [e3] at dp
      have hy := vw_dp A (show okP 0 (.bl b) from trivial) ry
      have lt := List.idxOf_lt_length_of_mem hb
      refine ⟨a, u, .bool b, bs.map PyData.bool, bs.idxOf b, .bool b, rfl, rfl, dp, hy, ?_, rfl, ?_, (by rw [eqv_bool]; simp), fun m z hm hz => ?_, c (.int ((bs.idxOf b : Nat) : Int)) _ H F O A (Same.refl F) rfl hk⟩
      · have := shaped_ok (bools_ok bs) (by decide)
        rw [e3] at this
        exact this
      · rw [List.getElem?_map, List.getElem?_eq_getElem lt, List.getElem_idxOf lt]
        rfl
      · have hm2 : m < bs.length := by omega
        rw [List.getElem?_map, List.getElem?_eq_getElem hm2] at hz
        cases hz
        rw [eqv_bool]
        have := List.not_of_lt_findIdx (p := (· == b)) hm
        simpa using this
    · exact hh.elim) h
/-! ## classes and what they say, in lists -/
def inTb (l : List (Value × Bool)) (cls : Value) (b : Bool) : Prop := (cls, b) ∈ l
def inTe (l : List (Addr × Bool)) (C : Addr) (b : Bool) : Prop := (C, b) ∈ l
def inTf (l : List Addr) (C : Addr) : Prop := C ∈ l
section
variable {K : PySem.W.Frag} {c : Value} {C D : Addr} {b : Bool} {n : Str}
theorem tb_nil : ∀ cls b, inTb [] cls b → PySem.W.exmOne K cls c = some b := fun _ _ h => nomatch h
theorem tb_cons {a : Value} {l : List (Value × Bool)} (h : PySem.W.exmOne K a c = some b) (r : ∀ cls b, inTb l cls b → PySem.W.exmOne K cls c = some b) : ∀ cls b', inTb ((a, b) :: l) cls b' → PySem.W.exmOne K cls c = some b' := fun cls b' hm => by
  rcases List.mem_cons.mp hm with e | e
  · cases e; exact h
  · exact r cls b' e
theorem te_nil : ∀ D b, inTe [] D b → ExC K D ∧ PySem.W.kitOne K (.ref D) (.ref C) = some b := fun _ _ h => nomatch h
theorem te_cons {l : List (Addr × Bool)} (e : ExC K D) (h : PySem.W.kitOne K (.ref D) (.ref C) = some b) (r : ∀ D b, inTe l D b → ExC K D ∧ PySem.W.kitOne K (.ref D) (.ref C) = some b) : ∀ D' b', inTe ((D, b) :: l) D' b' → ExC K D' ∧ PySem.W.kitOne K (.ref D') (.ref C) = some b' := fun D' b' hm => by
  rcases List.mem_cons.mp hm with z | z
  · cases z; exact ⟨e, h⟩
  · exact r D' b' z
theorem tf_nil : ∀ D, inTf [] D → ExC K D ∧ PySem.W.findIn K (.ref D) n = some none := fun _ h => nomatch h
theorem tf_cons {l : List Addr} (e : ExC K D) (h : PySem.W.findIn K (.ref D) n = some none) (r : ∀ D, inTf l D → ExC K D ∧ PySem.W.findIn K (.ref D) n = some none) : ∀ D', inTf (D :: l) D' → ExC K D' ∧ PySem.W.findIn K (.ref D') n = some none := fun D' hm => by
  rcases List.mem_cons.mp hm with z | z
  · subst z; exact ⟨e, h⟩
  · exact r D' z
end
theorem kit_notE {K : PySem.W.Frag} {C : Addr} {t : String} (h1 : PySem.W.isClsIn K C = true) (h2 : PySem.W.typeIn K (.ref C) = some (.type "type")) (h3 : PySem.W.subIn K (.type t) (.ref C) = some false) : PySem.W.kitOne K (.type t) (.ref C) = some false := by
  have h1' : (PySem.W.clsIn K C).isSome = true := h1
  have e1 : ((PySem.W.clsIn K C).isSome && PySem.W.typeIn K (.ref C) == some (.type "type")) = true := by
    rw [h1', h2] <;> rfl
  have e0 : (Value.type t == Value.ref C) = false := Bool.eq_false_iff.mpr fun q => by cases beq_iff_eq.mp q
  unfold PySem.W.kitOne PySem.W.kitCls
  rw [e0, if_neg Bool.false_ne_true]
  dsimp only
  rw [if_pos e1, h3]
theorem hu1 {A : Around} {k : Nat} (hr : Room k A) : A.units + 65 < cLine := by have := hr.un; omega
/-- {} that is never filled -/
def dDic0 : PTE := fun _ _ M q => q (.dic [] []) M
theorem de_dic0 {pos : Pos} : DE X W (.Dict [] [] pos) dDic0 := pe_imp pe_dnewK fun σ H Q ⟨g, ρ, M, F, O, q, w, A, p, hw, k⟩ => fun a ha =>
  k (.ref a) _ _ _ _ (.dic [] []) (A.lay ha) (same_new (A.f0 ha)) ⟨a, [], rfl, .inl upd_same, rfl, rfl⟩ p
end
end Px

set_option Elab.async false
set_option linter.all false
set_option maxRecDepth 100000
namespace Px
open PySem PySem.Spec PyProof.Rows L2
/-! # defs that make lambdas -/
section
variable {P : Program} {w : World} {K : PySem.W.Frag} {mg : Str → Option Value} {base : Heap} {k : Nat} {f : Addr} {fd : FuncData} {ps N : List Str}
theorem Fun.gokC {x qual : Str} {stm : Stmt} {sp : Sp} (Fn : L2.Fun K x qual stm f fd) (S : FnScope N ps (defScope stm)) (hn : ∀ vs H Q E, sp vs H Q E → vs.length = ps.length)
    (hbody : ∀ (cdv : Value) (A : Around) (outer : List Env) (s : Shared) (H : Hp) (vs : List V) (Q : VK) (E : XK), fd.code = cdv → Room k (A.deeper (envOfC qual (defScope stm) s.heap.objs.size f cdv)) → A.guards = some [] → sp vs H Q E →
      ∃ t : TS, PSs (cxOf (L2.CX P w) P w K mg base N qual (defScope stm) f cdv A outer s H E) (defBody stm) t ∧ t { nx := fun _ H' => Q .non H', rt := Q } (L2.start N vs) H) :
    FnG P w K mg base (k + 1) f fd ps sp := by
  obtain ⟨oc, od, kV, doc, pm, an, cdv, ct, osl, rfl, lk, hcd⟩ := Fn.ex
  refine ⟨hn, fun A outer s H args us vs Q E hr hG e0 hb r hsp => ?_⟩
  exact LamX.run_ofS (CX := L2.CX P w) lk hcd S hr e0 hb r (hn _ _ _ _ hsp) fun hr' => hbody cdv A outer s H vs Q E rfl hr' hG hsp
theorem Fun.pokC {x qual : Str} {stm : Stmt} {n : Nat} {sp : PSp} {p : PTS} (Fn : L2.Fun K x qual stm f fd) (S : FnScope N ps (defScope stm)) (hn : ps.length = n) (hs : Shows sp N.length p)
    (hbody : ∀ (cdv : Value) (A : Around) (outer : List Env) (s : Shared) (H : Hp) (E : XK), fd.code = cdv → Room k (A.deeper (envOfC qual (defScope stm) s.heap.objs.size f cdv)) → A.guards = some [] →
      DSs (cxOf (L2.CX P w) P w K mg base N qual (defScope stm) f cdv A outer s H E) (WE E) (defBody stm) p) :
    FnG P w K mg base (k + 1) f fd ps (toSp K n sp) := by
  refine Fun.gokC Fn S (fun vs H Q E h => by rw [toSp_len h, hn]) fun cdv A outer s H vs Q E hc hr hG hsp => ⟨_, hbody cdv A outer s H E hc hr hG, ?_⟩
  obtain ⟨g, F, M, O, ds, q, e, _, A0, rp, hsp, hQ, hE⟩ := hsp
  refine ⟨_, _, _, _, _, _, _, A0.enter (N := N) rp, hs ds M q e hsp, ?_, ?_, ?_, ?_, ?_, ?_⟩
  · intro cls dd σ' H' ρ' M' F' O' fs A2 s2 x2 ⟨M2, h1, h2⟩
    exact hE cls dd H' F' _ M2 fs (A2.leave h1) x2 h2
  · intro σ' H' ρ' M' F' O' A2 s2 ⟨M2, h1, h2⟩
    exact hQ .non H' F' _ M2 .non (A2.leave h1) rfl h2
  · intro v σ' H' ρ' M' F' O' d A2 s2 r2 ⟨M2, h1, h2⟩
    exact hQ v H' F' _ M2 d (A2.leave h1) r2 h2
  · intro σ' H' ρ' M' F' O' A2 s2 z; exact z.elim
  · intro σ' H' ρ' M' F' O' A2 s2 z; exact z.elim
  · intro a xs σ' H' ρ' M' F' O' ds A2 s2 e1 e2 e3 e4 e5 z; exact z.elim
end
/-! ## the law's own call, tables of code objects at hand -/
/-- a table: its address, the name of its lambdas -/
abbrev Tb := Addr × Str
def tabM (ts : List Tb) : Mm := fun a => (ts.find? fun t => decide (t.1 = a)).map fun t => .tab t.2
def sp_lawT (ts : List Tb) : PSp := fun ds M q _ => ar1 ds fun d => match d with | .scr ns => ns.length ≤ 63 ∧ (∀ t ∈ ts, M t.1 = some (.tab t.2)) ∧ q (.bl true) M | _ => False
theorem tabM_at {ts : List Tb} (nd : (ts.map (·.1)).Nodup) {t : Tb} (h : t ∈ ts) : tabM ts t.1 = some (.tab t.2) := by
  unfold tabM
  induction ts with
  | nil => cases h
  | cons x r ih =>
    rw [List.map_cons, List.nodup_cons] at nd
    rcases List.mem_cons.mp h with rfl | h
    · rw [List.find?_cons, decide_eq_true rfl]; rfl
    · have ne : x.1 ≠ t.1 := fun z => nd.1 (by rw [z]; exact List.mem_map.mpr ⟨t, h, rfl⟩)
      rw [List.find?_cons, decide_eq_false ne]
      exact ih nd.2 h
theorem tabM_of {ts : List Tb} {a : Addr} {mo : Mo} (h : tabM ts a = some mo) : ∃ t ∈ ts, t.1 = a ∧ mo = .tab t.2 := by
  unfold tabM at h
  cases e : ts.find? fun t => decide (t.1 = a) with
  | none => rw [e] at h; cases h
  | some t =>
    rw [e] at h
    cases h
    exact ⟨t, List.mem_of_find?_eq_some e, by simpa using List.find?_some e, rfl⟩
/-- the abstract heap without some addresses -/
def hidM (H : Hp) (l : List Addr) : Hp := fun b => if b ∈ l then none else H b
theorem hidM_of {H : Hp} {l : List Addr} {b : Addr} {o : HO} (h : hidM H l b = some o) : H b = some o := by
  unfold hidM at h
  split at h
  · cases h
  · exact h
theorem hidM_at {H : Hp} {l : List Addr} {b : Addr} (h : b ∈ l) : hidM H l b = none := if_pos h
theorem hidM_get {H : Hp} {l : List Addr} {b : Addr} {o : HO} (h : H b = some o) (n : b ∉ l) : hidM H l b = some o := by unfold hidM; rw [if_neg n]; exact h
/-- a def, its code object, its code's table, the name of its lambdas -/
structure Mk where
  c : Addr
  p : Addr
  q : Str
section
variable {P : Program} {w : World} {K : PySem.W.Frag} {mg mb : Str → Option Value} {k : Nat} {fa a : Addr} {fd : FuncData} {x : Str} {s₁ : Shared} {vs : List Value} {ns : List Int} {ms : List Mk}
abbrev emTab : Obj := { cls := .none, data := .fields #[] }
theorem law_fromT (H : Hp) (KX : K.In s₁.heap) (hns : s₁.heap.Ns mainGlobals mg) (hb : s₁.heap.Ns builtinsNs mb) (hbb : ∀ x : Str, x ≠ "__name__" → mb x = bootBuiltins x) (hlim : s₁.heap.NoLimit) (hg : s₁.gens = #[])
    (hbm : ∃ (bm : Addr) (ob : Obj), mg "__builtins__" = some (.ref bm) ∧ bm ≠ builtinsNs ∧ s₁.heap.get? bm = some ob ∧ ob.cls = .type "module" ∧ ob.dict = some builtinsNs ∧ ob.data = .plain)
    (hT : ∀ m ∈ ms, s₁.heap.get? m.p = some emTab) (hC : ∀ m ∈ ms, PySem.W.CodeHd s₁.heap m.c m.p) (nT : ∀ m ∈ ms, K.lookup m.p = none) (nd : (ms.map (·.p)).Nodup)
    (ha : s₁.heap.get? a = some { cls := .type "list", data := .seq vs.toArray }) (hl : ns.length ≤ 63) (hr : Room k callerA)
    (G : ∀ base : Heap, K.In base → base.Ns mainGlobals mg → (∀ m ∈ ms, LamX.TabB base mg m.c m.p) → FnG P w K mg base k fa fd [x] (toSp K 1 (sp_lawT (ms.map fun m => (m.p, m.q)))))
    (hbind : ∀ (s : Shared) (u : Value), BindsTo s fd ⟨[u], []⟩ [(x, u)]) (hO : ∀ b, H b = none ∨ (∃ o xs, H b = some (.frz o (.lst xs))) ∨ (H b = some (.tbl #[]) ∧ ∃ m ∈ ms, b = m.p)) (hS : SqL K H a (ns.map V.int)) (hok : HOk P w H s₁.heap)
    (hA : ∀ b, H b ≠ none → b = a ∨ ∃ m ∈ ms, b = m.p) (hK : H a ≠ none → K.lookup a = none) (hP : ∀ m ∈ ms, H m.p = some (.tbl #[])) : codeAny (model P w) callerA (.call (.ref fa) ⟨[.ref a], []⟩) (GoodEnd s₁) s₁ := by
  have plainO : ∀ {b : Addr} {u : Obj}, s₁.heap.get? b = some u → (∀ xs n, u.data ≠ .seq xs n) → u.data ≠ .fields #[] → H b = none := by
    intro b u e d1 d2
    by_cases z : H b = none
    · exact z
    · rcases hA b z with y | ⟨m, hm, y⟩
      · rw [y, ha] at e; cases e; exact absurd rfl (d1 _ _)
      · rw [y, hT m hm] at e; cases e; exact absurd rfl d2
  have dictO : ∀ {b : Addr} {u : Obj} {es : Array DictEntry} {ep : Nat}, s₁.heap.get? b = some u → u.data = .dict es ep → H b = none := by
    intro b u es ep e d
    exact plainO e (fun xs n z => by rw [d] at z; cases z) (fun z => by rw [d] at z; cases z)
  have ns_of : ∀ {b : Addr} {m : Str → Option Value}, s₁.heap.Ns b m → (hidT s₁.heap H).Ns b m := by
    rintro b m ⟨u, es, ep, e, d, r⟩
    exact ⟨u, es, ep, hidT_get e (dictO e d), d, r⟩
  have kb : K.In (hidT s₁.heap H) := by
    intro b u e
    refine hidT_get (KX b u e) ?_
    by_cases z : H b = none
    · exact z
    · rcases hA b z with y | ⟨m, hm, y⟩
      · rw [y] at e z
        rw [hK z] at e
        cases e
      · rw [y, nT m hm] at e; cases e
  have lim2 : (hidT s₁.heap H).NoLimit := by
    obtain ⟨mc, q1, q2⟩ := hlim
    exact ⟨mc, ns_of q1, q2⟩
  have md : Mod K mg (hidT s₁.heap H) := ⟨kb, ns_of hns, ⟨mb, ns_of hb, hbb⟩, lim2⟩
  have tabs : ∀ m ∈ ms, LamX.TabB (hidT s₁.heap H) mg m.c m.p := by
    intro m hm
    have tm := hT m hm
    refine ⟨?_, ?_, ?_⟩
    · obtain ⟨o, us, file, tf, flags, tg, inF, text, tt, e1, r1, r2, r3, r4, r5, r6, r7, r8, ne⟩ := hC m hm
      refine ⟨o, us, file, tf, flags, tg, inF, text, tt, hidT_get e1 (plainO e1 (fun xs n z => ?_) fun z => ?_), r1, r2, r3, r4, r5, r6, r7, r8, ne⟩
      · rw [r2] at z; cases z
      · rw [r2] at z; cases z; simp at r3
    · obtain ⟨bm, ob, b1, b2, b3, b4, b5, b6⟩ := hbm
      refine ⟨bm, ob, b1, b2, fun z => ?_, fun z => ?_, hidT_get b3 (plainO b3 (fun xs n z => ?_) fun z => ?_), b4, b5, b6⟩
      · obtain ⟨o, es, ep, e, hd, _⟩ := hns
        rw [z, e] at b3; cases b3; rw [hd] at b6; cases b6
      · rw [z, tm] at b3; cases b3; cases b6
      · rw [b6] at z; cases z
      · rw [b6] at z; cases z
    · intro z
      obtain ⟨o, es, ep, e, hd, _⟩ := hns
      rw [z, tm] at e; cases e; cases hd
  have e0 : Env0 P w K mg (hidT s₁.heap H) callerA [] s₁ H := { frames := rfl, mod := md, bs := fun b u e => of_hidT e, bsz := Nat.le_of_eq (hidT_size _ _), funs := trivial, frf := fun b hm => (nomatch hm), hok := hok, bare := .of_eq hg }
  have nd2 : ((ms.map fun m => ((m.p, m.q) : Tb)).map (·.1)).Nodup := by rw [List.map_map]; exact nd
  have prom : toSp K 1 (sp_lawT (ms.map fun m => (m.p, m.q))) [.ref a] H (fun v _ => v = .bl true) (fun _ _ _ => False) := by
    refine ⟨⟨H, hidM H (ms.map (·.p)), fun a => ∃ m ∈ ms, a = m.p, []⟩, hidM H (ms.map (·.p)), tabM (ms.map fun m => (m.p, m.q)), fun b => if b ∈ ms.map (·.p) then some (.obj b) else none, [.scr ns], fun d _ => d = .bl true, fun _ _ _ => False, rfl, ?_, ⟨.ref a, [], rfl, ⟨a, rfl, ?_⟩, rfl⟩, ⟨hl, fun t ht => tabM_at nd2 ht, rfl⟩,
      fun v H' F' O' M' d _ r e => ?_, fun _ _ _ _ _ _ _ _ _ z => z⟩
    · exact { sub := fun b o e => hidM_of e, ext0 := fun _ _ e => e, new := fun _ _ e => .inl e, frm := fun _ _ e _ => e, thr := fun _ u e => ⟨u, e⟩
              liv := fun b o e => by
                by_cases z : b ∈ ms.map (·.p)
                · obtain ⟨m, hm, rfl⟩ := List.mem_map.mp z
                  exact ⟨⟨_, hP m hm⟩, hidM_at z, .inl ⟨m, hm, rfl⟩⟩
                · rw [if_neg z] at e; cases e
              slo := fun b o e n => by
                by_cases z : b ∈ ms.map (·.p)
                · rw [if_pos z] at e; exact absurd (Option.some.inj e).symm (n b)
                · rw [if_neg z] at e; cases e
              tm := fun _ _ e => (nomatch e)
              mu := fun b mo e => by
                obtain ⟨t, ht, rfl, rfl⟩ := tabM_of e
                obtain ⟨m, hm, rfl⟩ := List.mem_map.mp ht
                refine ⟨#[], hP m hm, if_pos (List.mem_map.mpr ⟨m, hm, rfl⟩), True.intro, fun pos cv hc => ?_⟩
                have z : codeAmong pos [] = some cv := hc
                simp [codeAmong] at z }
    · rcases hS with h | h
      · refine .inl ?_
        rcases h with h | ⟨o, h⟩
        · exact .inl (hidM_get h fun z => by
            obtain ⟨m, hm, e⟩ := List.mem_map.mp z
            rw [← e, hP m hm] at h; cases h)
        · exact .inr ⟨o, hidM_get h fun z => by
            obtain ⟨m, hm, e⟩ := List.mem_map.mp z
            rw [← e, hP m hm] at h; cases h⟩
      · exact .inr h
    · have e' : d = .bl true := e
      subst e'
      exact r
  refine codeAny_mono ((G _ kb (ns_of hns) tabs).run callerA [] s₁ H ⟨[.ref a], []⟩ [.ref a] [.ref a] _ _ hr rfl e0 (hbind s₁ (.ref a)) (.cons rfl .nil) prom) ?_
  intro r s' h
  match r, h with
  | .error e, h =>
    obtain ⟨_, _, _, _, _, _, _, _, _, _, _, _, z⟩ := h
    exact z.elim
  | .ok .next, h => exact h.elim
  | .ok .brk, h => exact h.elim
  | .ok .cont, h => exact h.elim
  | .ok (.ret u), h =>
    obtain ⟨v, H', h1, h2, un, hok', rv, q⟩ := h
    have q' : v = .bl true := q
    subst q'
    have eu : u = Value.bool true := rv
    subst eu
    have tab' : ∀ m ∈ ms, ∃ more : Array Value, s'.heap.get? m.p = some { cls := .none, data := .fields more } := fun m hm => by
      obtain ⟨more, z⟩ := un.tbls m.p #[] (hP m hm)
      exact ⟨_, hok' m.p _ z⟩
    refine ⟨rfl, ⟨fun b u e => ?_, fun b u e => ?_⟩, h1, h2⟩
    · rcases hO b with z | ⟨ob, xs, z⟩ | ⟨z, m, hm, y⟩
      · exact .inl (un.keep b u e z (fun y => nomatch y) (fun y => nomatch y))
      · obtain ⟨e1, _⟩ := hok b _ z
        obtain ⟨e2, _⟩ := hok' b _ (un.frzs b ob _ z)
        rw [e] at e1
        cases e1
        exact .inl e2
      · obtain ⟨more, hm'⟩ := tab' m hm
        subst y
        have tm := hT m hm
        rw [tm] at e
        cases e
        exact .inr (.inl ⟨((hC m hm).tab tm).isCodeTable, rfl, #[], more, rfl, by rw [Array.empty_append]; exact hm'⟩)
    · exact un.there b u e (fun y => nomatch y)
theorem law_endT (KX : K.In s₁.heap) (hns : s₁.heap.Ns mainGlobals mg) (hb : s₁.heap.Ns builtinsNs mb) (hbb : ∀ x : Str, x ≠ "__name__" → mb x = bootBuiltins x) (hlim : s₁.heap.NoLimit) (hg : s₁.gens = #[])
    (hbm : ∃ (bm : Addr) (ob : Obj), mg "__builtins__" = some (.ref bm) ∧ bm ≠ builtinsNs ∧ s₁.heap.get? bm = some ob ∧ ob.cls = .type "module" ∧ ob.dict = some builtinsNs ∧ ob.data = .plain)
    (hT : ∀ m ∈ ms, s₁.heap.get? m.p = some emTab) (hC : ∀ m ∈ ms, PySem.W.CodeHd s₁.heap m.c m.p) (nT : ∀ m ∈ ms, K.lookup m.p = none) (nd : (ms.map (·.p)).Nodup)
    (ha : s₁.heap.get? a = some { cls := .type "list", data := .seq vs.toArray }) (hi : IntsAre vs ns) (hl : ns.length ≤ 63) (hr : Room k callerA)
    (G : ∀ base : Heap, K.In base → base.Ns mainGlobals mg → (∀ m ∈ ms, LamX.TabB base mg m.c m.p) → FnG P w K mg base k fa fd [x] (toSp K 1 (sp_lawT (ms.map fun m => (m.p, m.q)))))
    (hbind : ∀ (s : Shared) (u : Value), BindsTo s fd ⟨[u], []⟩ [(x, u)]) : codeAny (model P w) callerA (.call (.ref fa) ⟨[.ref a], []⟩) (GoodEnd s₁) s₁ := by
  have rv := vals_ints hi
  have hz : ns.length ≤ sizeLine := Nat.le_trans hl (by decide)
  have isT : ∀ b, b ∈ ms.map (·.p) → ∃ m ∈ ms, b = m.p := fun b h => let ⟨m, hm, e⟩ := List.mem_map.mp h; ⟨m, hm, e.symm⟩
  have aT : ∀ m ∈ ms, m.p ≠ a := fun m hm z => by
    have tm := hT m hm
    rw [z, ha] at tm
    have z' : Data.seq vs.toArray _ = Data.fields #[] := congrArg Obj.data (Option.some.inj tm)
    cases z'
  have inT : ∀ m ∈ ms, m.p ∈ ms.map (·.p) := fun m hm => List.mem_map.mpr ⟨m, hm, rfl⟩
  cases hk : K.lookup a with
  | some o =>
    have e := KX a o hk
    rw [ha] at e
    cases e
    refine law_fromT (fun b => if b ∈ ms.map (·.p) then some (.tbl #[]) else none) KX hns hb hbb hlim hg hbm hT hC nT nd ha hl hr G hbind (fun b => ?_) (.inr ⟨_, vs.toArray, _, hk, rfl, rfl, rfl, by rw [List.size_toArray, ← hi.length] at *; simpa using hz, by simpa using rv⟩) (fun b u z => ?_) (fun b z => ?_) (fun z => ?_) fun m hm => if_pos (inT m hm)
    · by_cases y : b ∈ ms.map (·.p)
      · exact .inr (.inr ⟨if_pos y, isT b y⟩)
      · exact .inl (if_neg y)
    · by_cases y : b ∈ ms.map (·.p)
      · have z' := (if_pos y).symm.trans z
        cases z'
        obtain ⟨m, hm, rfl⟩ := isT b y
        exact hT m hm
      · have z' := (if_neg y).symm.trans z
        cases z'
    · by_cases y : b ∈ ms.map (·.p)
      · exact .inr (isT b y)
      · exact absurd (if_neg y) z
    · refine absurd (if_neg fun y => ?_) z
      obtain ⟨m, hm, e⟩ := isT a y
      exact aT m hm e.symm
  | none =>
    refine law_fromT (fun b => if b = a then some (.frz { cls := .type "list", data := .seq vs.toArray } (.lst (ns.map V.int))) else if b ∈ ms.map (·.p) then some (.tbl #[]) else none) KX hns hb hbb hlim hg hbm hT hC nT nd ha hl hr G hbind (fun b => ?_) (.inl (.inr ⟨_, if_pos rfl⟩)) (fun b u z => ?_) (fun b z => ?_) (fun _ => hk)
      fun m hm => (if_neg (aT m hm)).trans (if_pos (inT m hm))
    · by_cases q : b = a
      · exact .inr (.inl ⟨_, _, if_pos q⟩)
      · by_cases y : b ∈ ms.map (·.p)
        · exact .inr (.inr ⟨(if_neg q).trans (if_pos y), isT b y⟩)
        · exact .inl ((if_neg q).trans (if_neg y))
    · by_cases q : b = a
      · have z' := (if_pos q).symm.trans z
        cases z'
        rw [q]
        exact ⟨ha, by rw [List.length_map]; exact hz, vs, _, rv, ha⟩
      · have z1 := (if_neg q).symm.trans z
        by_cases y : b ∈ ms.map (·.p)
        · have z' := (if_pos y).symm.trans z1
          cases z'
          obtain ⟨m, hm, rfl⟩ := isT b y
          exact hT m hm
        · have z' := (if_neg y).symm.trans z1
          cases z'
    · by_cases q : b = a
      · exact .inl q
      · by_cases y : b ∈ ms.map (·.p)
        · exact .inr (isT b y)
        · exact absurd ((if_neg q).trans (if_neg y)) z
end
theorem walk_gT {l : PySem.W.OpenLaw} {k : Nat} {q : Program} {loose : List Str} {XP : (Str → Option Value) → Heap → Prop} {YP : World → Heap → Prop} {d : DefRec} {K : Params → PySem.W.Frag} {x : Str} (hn : l.most = some 63) (hdf : d.params.defaults = []) (hr : Room k callerA)
    (hY : ∀ (w : World) (h : Heap), YP w h → (K w.params).In h)
    (G : ∀ (w : World) (mg : Str → Option Value) (fa : Addr) (h : Heap), (K w.params).In h → YP w h → h.Ns mainGlobals mg → mg d.name = some (.ref fa) →
      ∃ (fd : FuncData) (ms : List Mk), (∀ (s : Shared) (u : Value), BindsTo s fd ⟨[u], []⟩ [(x, u)]) ∧ (∀ m ∈ ms, h.get? m.p = some emTab) ∧ (∀ m ∈ ms, PySem.W.CodeHd h m.c m.p) ∧ (∀ m ∈ ms, (K w.params).lookup m.p = none) ∧ (ms.map (·.p)).Nodup ∧
        ∀ base : Heap, (K w.params).In base → base.Ns mainGlobals mg → (∀ m ∈ ms, LamX.TabB base mg m.c m.p) → FnG l.prog w (K w.params) mg base k fa fd [x] (toSp (K w.params) 1 (sp_lawT (ms.map fun m => (m.p, m.q))))) :
    PySem.W.WalkO q loose XP YP l.row.toRowW d [] (fun f vs => PySem.call f vs) := by
  refine Att.attach_call hn hdf fun w s₀ s₁ mg mb fa o pm cd doc a vs ns G0 Y ho hd hcd hmg hobj hints hlen hg => ?_
  obtain ⟨fd, ms, hbd, h1, h2, h3, h4, hF⟩ := G w mg fa _ (hY w _ Y) Y G0.T.g hmg
  exact law_endT (hY w _ Y) G0.T.g G0.T.b G0.T.builtins G0.T.nolimit hg G0.T.bmain h1 h2 h3 h4 hobj hints hlen hr hF hbd
end Px

set_option Elab.async false
set_option linter.all false
set_option maxRecDepth 100000
namespace Px
open PySem PySem.Spec PyProof.Rows L2
/-! # what laws draw as any value, and how they judge it -/
def oddL : List D := [.non, .bl true, .bl false, .int 0, .int 1, .int (-1), .int 5, .int (10 ^ 29), .str "", .str "a", .str "A", .str "abc", .str "a b", .tup [], .lst [], .dic [] [], .tup [.str "a"], .lst [.str "a"]]
def sp__law_odd (C : Cl) : PSp := fun ds M q _ => ar1 ds fun d => asDraw d M (∀ x ∈ oddL, q x M)
def rd__law_odd (C : Cl) : PTS := (dSeq (dSet 1 (dL (dLst (dCons (dC .non) (dCons (dC (.bl true)) (dCons (dC (.bl false)) (dCons (dC (.int 0)) (dCons (dC (.int 1)) (dCons (dNeg (dC (.int 1))) (dCons (dC (.int 5)) (dCons (dOp fPow (dC (.int 10)) (dC (.int 29))) (dCons (dC (.str "")) (dCons (dC (.str "a")) (dCons (dC (.str "A")) (dCons (dC (.str "abc")) (dCons (dC (.str "a b")) (dCons (dTup dNil) (dCons (dL (dLst dNil)) (dCons dDic0 (dCons (dTup (dCons (dC (.str "a")) dNil)) (dCons (dL (dLst (dCons (dC (.str "a")) dNil))) dNil)))))))))))))))))))))
    (dRet (dCall sp_pick [] (dCons (dVar 0) (dCons (dVar 1) dNil)))))
theorem sh__law_odd (C : Cl) : Shows (sp__law_odd C) 2 (rd__law_odd C) := by
  intro ds M q e h
  obtain ⟨d, rfl, h⟩ := ar1_of h
  obtain ⟨a, rfl, hm, hq⟩ := asDraw_of h
  have one : (1 : Nat) ≤ 1000000 := by decide
  have z : (0 : Nat) ≤ 1000000 := by decide
  have n18 : (18 : Nat) ≤ 1000000 := by decide
  exact ⟨⟨by decide, by decide, by decide⟩, z, z, one, one, n18, hm, ⟨by decide, by decide⟩, fun x hx => ⟨M, MLe.refl M, hq x hx⟩⟩
theorem odd_plain {d : D} (h : d ∈ oddL) : plain d = true ∧ parts d = true := by
  have : oddL.all (fun d => plain d && parts d) = true := rfl
  have := List.all_eq_true.mp this d h
  simpa using this
def sp__law_is_speed (C : Cl) : PSp := fun ds M q _ => ar1 ds fun d => (plain d = true ∧ parts d = true) ∧ q (.bl (isSpD d)) M
def rd__law_is_speed (C : Cl) : PTS := (dSeq (dIfS (dOr (dNot (dTst (dB1 (fIsi "tuple") (dVar 0)))) (dTst (dOp fNe (dB1 fLen (dVar 0)) (dC (.int 2))))) (dRet (dC (.bl false))) dNext)
    (dSeq (dIfS (dTst (dOp fNe (dL (dComp [3] (iA (dVar 0)) (gNm 3) (dOr (dNot (dTst (dB1 (fIsi "int") (dVar 3)))) (dTst (dB1 (fIsi "bool") (dVar 3)))) (dC (.int 1)))) (dL (dLst dNil)))) (dRet (dC (.bl false))) dNext)
    (dSeq (dAsg (dVar 0) (gTp 2 (gsCons (gNm 1) (gsCons (gNm 2) gsNil))))
    (dSeq (dIfS (dOr (dTst (dOp fLt (dVar 1) (dC (.int 0)))) (dTst (dOp fLt (dVar 2) (dC (.int 1))))) (dRet (dC (.bl false))) dNext)
    (dSeq (dWhile (dTst (dOp fGt (dVar 2) (dC (.int 0)))) (dPar 1 2 (dCons (dVar 2) (dCons (dOp fMod (dVar 1) (dVar 2)) dNil))))
    (dRet (dOp fEq (dVar 1) (dC (.int 1)))))))))
theorem sh__law_is_speed (C : Cl) : Shows (sp__law_is_speed C) 4 (rd__law_is_speed C) := by
  intro ds M q e h
  obtain ⟨d, rfl, ⟨hp, hpart⟩, hq⟩ := ar1_of h
  have fin : ∀ {b : Bool}, isSpD d = b → q (.bl b) M := fun e => e ▸ hq
  have ok : ∃ M2, MLe M2 M ∧ q (.bl (isSpD d)) M2 := ⟨M, MLe.refl M, hq⟩
  have lt1 : (0 : Nat) < 1000000 := by decide
  have lt1' : (1 : Nat) ≤ 1000000 := by decide
  have lt2 : (1 : Nat) < 1000000 := by decide
  have lt2' : (2 : Nat) ≤ 1000000 := by decide
  cases d with
  | tup l =>
    rcases l with _ | ⟨a, _ | ⟨b, _ | ⟨c, r⟩⟩⟩
    · exact ⟨rfl, ok⟩
    · cases a <;> exact ⟨rfl, ok⟩
    · obtain ⟨ha, hb⟩ : plain a = true ∧ plain b = true := by
        have h2 : (plain a && (plain b && true)) = true := hpart
        simpa using h2
      refine ⟨rfl, rfl, ?_⟩
      cases a with
      | int x =>
        cases b with
        | int y =>
          refine ⟨Nat.zero_le _, rfl, rfl, ?_⟩
          have hq : q (.bl (decide (0 ≤ x) && (decide (1 ≤ y) && decide (g0 x y = 1)))) M := hq
          by_cases h0 : x < 0
          · refine itT (decide_eq_true h0) ⟨M, MLe.refl M, ?_⟩
            rw [decide_eq_false (by omega : ¬ 0 ≤ x)] at hq
            exact hq
          · refine itF (decide_eq_false h0) ?_
            rw [decide_eq_true (by omega : 0 ≤ x)] at hq
            by_cases h1 : y < 1
            · refine itT (decide_eq_true h1) ⟨M, MLe.refl M, ?_⟩
              rw [decide_eq_false (by omega : ¬ 1 ≤ y)] at hq
              exact hq
            · refine itF (decide_eq_false h1) ?_
              rw [decide_eq_true (by omega : 1 ≤ y)] at hq
              refine ⟨fun m ρ M' => ∃ x' y' : Int, ∃ z : Option Sv, ρ = [some (.val (.tup [.int x, .int y])), some (.val (.int x')), some (.val (.int y')), z] ∧ M' = M ∧ 0 ≤ x' ∧ 0 ≤ y' ∧ g0 x' y' = g0 x y ∧ m = y'.toNat, ⟨_, x, y, _, rfl, rfl, by omega, by omega, rfl, rfl⟩, ?_⟩
              rintro m ρ M' ⟨x', y', z, rfl, rfl, g1, g2, g3, rfl⟩
              by_cases hy : 0 < y'
              · refine itT (decide_eq_true hy) ⟨hy, ?_⟩
                have e1 := Int.emod_nonneg x' (show y' ≠ 0 by omega)
                have e2 := Int.emod_lt_of_pos x' hy
                exact ⟨_, by omega, y', x' % y', z, rfl, rfl, g2, e1, by rw [g0_step]; exact g3, rfl⟩
              · have e0 : y' = 0 := by omega
                rw [e0, g0_zero g1] at g3
                subst g3
                exact itF (decide_eq_false hy) ⟨rfl, M', MLe.refl M', hq⟩
        | _ => first | (exfalso; revert hb; simp [plain, tyD]; done) | exact ⟨lt1, Nat.zero_le _, rfl, ok⟩
      | _ => first
        | (exfalso; revert ha; simp [plain, tyD]; done)
        | (cases b <;> first | (exfalso; revert hb; simp [plain, tyD]; done) | exact ⟨lt1, Nat.zero_le _, rfl, ok⟩ | exact ⟨lt1, lt2, Nat.zero_le _, rfl, ok⟩)
    · refine ⟨rfl, ?_⟩
      cases a <;> first | exact ok | (cases b <;> exact ok)
  | _ => first | (exfalso; revert hp; simp [plain, tyD]; done) | exact ok
end Px

set_option Elab.async false
set_option linter.all false
set_option maxRecDepth 100000
namespace Px
open PySem PySem.Spec PyProof.Rows L2
/-! # own lists: pop(i), insert(i, x), xs[i] = e; a + b as a new list; xs[::-1] -/
section
variable {K : PySem.W.Frag} {F : Hp}
theorem RpL.era : ∀ {ds : List D} {xs : List V} (i : Nat), RpL K F ds xs → RpL K F (ds.eraseIdx i) (xs.eraseIdx i)
  | [], _, _, h => by rw [h]; exact rfl
  | _ :: ds, _, 0, ⟨x, r, e1, _, t⟩ => by rw [e1]; exact t
  | _ :: ds, _, i + 1, ⟨x, r, e1, h, t⟩ => by rw [e1]; exact ⟨x, _, rfl, h, RpL.era i t⟩
theorem RpL.one {d : D} {x : V} (h : Rp K F d x) : RpL K F [d] [x] := ⟨x, [], rfl, h, rfl⟩
theorem RpL.rev : ∀ {ds : List D} {xs : List V}, RpL K F ds xs → RpL K F ds.reverse xs.reverse
  | [], _, h => by rw [h]; exact rfl
  | _ :: ds, _, ⟨x, r, e1, h, t⟩ => by rw [e1, List.reverse_cons, List.reverse_cons]; exact (RpL.rev t).app (RpL.one h)
end
/-- the name's own list, changed by f where f says how -/
def chgR (ρ : Rho) (i : Nat) (f : List D → Option (List D)) (k : Rho → Prop) : Prop := match gt ρ i with | some (.own l) => l.length < 1000000 ∧ ∃ l', f l = some l' ∧ k (st ρ i (.own l')) | _ => False
theorem chgR_of {ρ : Rho} {i : Nat} {f : List D → Option (List D)} {k : Rho → Prop} (h : chgR ρ i f k) : ∃ l l', gt ρ i = some (.own l) ∧ l.length < 1000000 ∧ f l = some l' ∧ k (st ρ i (.own l')) := by
  unfold chgR at h
  split at h
  · obtain ⟨z, l', e, q⟩ := h
    exact ⟨_, l', by assumption, z, e, q⟩
  · exact h.elim
def popF (d : D) (l : List D) : Option (List D) := match d with | .int n => (ixN l.length n).map fun j => l.eraseIdx j | _ => none
def insF (d x : D) (l : List D) : Option (List D) := match d with | .int n => if 0 ≤ n ∧ n < 1000000 then some (l.take n.toNat ++ [x] ++ l.drop n.toNat) else none | _ => none
def setF (d x : D) (l : List D) : Option (List D) := match d with | .int n => (ixN l.length n).map fun j => l.set j x | _ => none
def dPopA (i : Nat) (pe : PTE) : PTS := fun w P ρ M => isOwn ρ i ∧ pe w ρ M fun d M' => chgR ρ i (popF d) fun ρ' => P.nx ρ' M'
def dIns (i : Nat) (pe pf : PTE) : PTS := fun w P ρ M => isOwn ρ i ∧ pe w ρ M fun d M1 => pf w ρ M1 fun x M2 => chgR ρ i (insF d x) fun ρ' => P.nx ρ' M2
def dSetA (i : Nat) (pe pi : PTE) : PTS := fun w P ρ M => isOwn ρ i ∧ pe w ρ M fun x M1 => pi w ρ M1 fun d M2 => chgR ρ i (setF d x) fun ρ' => P.nx ρ' M2
section
variable {X : Cx} {W : WX} {e f : Expr} {pe pf : PTE} {pos p1 p2 p3 : Pos}
theorem ds_popA (i : Nat) {x : Str} (he : DE X W e pe) (hN : X.N[i]? = some x := by rfl) (hv : Vis X.env.scope x := by first | exact Or.inl rfl | exact Or.inr (Or.inl rfl) | exact Or.inr (Or.inr rfl)) (hd : (x == ("__debug__" : Str)) = false := by decide)
    (hcd : (x == ("__classdict__" : Str)) = false := by decide) (hs : starEach [e] X.env = (false, eval e X.env) :: starEach [] X.env := by rfl)
    (hbase : attributeBase (.Name x p1) "pop" X.env (eval (.Name x p1) X.env) = eval (.Name x p1) X.env := by rfl)
    (hfew : ((backTo p3 (starEach [e] X.env)).all (fun x => !x.1) && (backToKw p3 (keywordEach [] X.env)).all (fun x => x.1.isSome)
      && decide ([e].length + ([] : List Keyword).length + (if ([] : List Keyword).isEmpty then 0 else 1) < 30)) = true := by rfl)
    (hline : (p2.endLine == p3.line) = true := by rfl) (hplain : (backTo p3 (starEach [] X.env)).any (·.1) = false := by rfl) :
    DS X W (.Expr (.Call (.Attribute (.Name x p1) "pop" p2) [e] [] p3) pos) (dPopA i pe) :=
  ps_imp (ps_expr (pe_bm PySem.F.plainAttrs_list PySem.F.slot_list_pop PySem.F.type_list_pop mt_popAt (pv i hN hv hd hcd) (pa_cons he pa_nil hs) hbase hfew hline hs hplain)) fun D σ H ⟨g, ρ, M, F, O, P, w, A, ⟨h0, h⟩, hw, k1, _⟩ => by
    obtain ⟨l0, e0⟩ := isOwn_of h0
    obtain ⟨v, hv', l, xs, rfl, hl, rl, hO⟩ := A.sl i _ e0
    refine ⟨.ref l, hv', .inl ⟨rfl, xs, .inl (.inl hl)⟩, g, ρ, M, F, O, _, w, A, h, hw, fun u H1 F1 O1 M1 d A1 s1 r1 q1 => ?_⟩
    obtain ⟨l1, l2, e1, hz, ef, q2⟩ := chgR_of q1
    obtain ⟨v2, hv2, l3, ys, ev, hl2, rl2, hO2⟩ := A1.sl i _ e1
    rw [hv'] at hv2
    cases hv2
    cases ev
    unfold popF at ef
    split at ef
    · rename_i n
      obtain ⟨j, ej, e2⟩ := Option.map_eq_some_iff.mp ef
      subst e2
      obtain ⟨hs1, hs2, hs3, hs4⟩ := ixN_seq ej
      have hle := rl2.len
      obtain ⟨y, hy⟩ : ∃ y, ys[j]? = some y := ⟨ys[j], List.getElem?_eq_getElem (by omega)⟩
      exact ⟨l, ys, n, j, y, rfl, by rw [show u = V.int n from r1], hl2, by omega, by omega, by rw [← hle]; exact hs1, hy, k1 _ _ _ _ F1 O1 (A1.chg (xs := ys) e1 hv' hO2 (rl2.era j)) s1 q2⟩
    · cases ef
theorem ds_ins (i : Nat) {x : Str} (he : DE X W e pe) (hf : DE X W f pf) (hN : X.N[i]? = some x := by rfl) (hv : Vis X.env.scope x := by first | exact Or.inl rfl | exact Or.inr (Or.inl rfl) | exact Or.inr (Or.inr rfl)) (hd : (x == ("__debug__" : Str)) = false := by decide)
    (hcd : (x == ("__classdict__" : Str)) = false := by decide) (hs : starEach [e, f] X.env = (false, eval e X.env) :: starEach [f] X.env := by rfl) (hs2 : starEach [f] X.env = (false, eval f X.env) :: starEach [] X.env := by rfl)
    (hbase : attributeBase (.Name x p1) "insert" X.env (eval (.Name x p1) X.env) = eval (.Name x p1) X.env := by rfl)
    (hfew : ((backTo p3 (starEach [e, f] X.env)).all (fun x => !x.1) && (backToKw p3 (keywordEach [] X.env)).all (fun x => x.1.isSome)
      && decide ([e, f].length + ([] : List Keyword).length + (if ([] : List Keyword).isEmpty then 0 else 1) < 30)) = true := by rfl)
    (hline : (p2.endLine == p3.line) = true := by rfl) (hplain : (backTo p3 (starEach [f] X.env)).any (·.1) = false := by rfl) :
    DS X W (.Expr (.Call (.Attribute (.Name x p1) "insert" p2) [e, f] [] p3) pos) (dIns i pe pf) :=
  ps_imp (ps_expr (pe_bm PySem.F.plainAttrs_list PySem.F.slot_list_insert PySem.F.type_list_insert mt_insert (pv i hN hv hd hcd) (pa_cons he (pa_cons hf pa_nil hs2) hs) hbase hfew hline hs hplain)) fun D σ H ⟨g, ρ, M, F, O, P, w, A, ⟨h0, h⟩, hw, k1, _⟩ => by
    obtain ⟨l0, e0⟩ := isOwn_of h0
    obtain ⟨v, hv', l, xs, rfl, hl, rl, hO⟩ := A.sl i _ e0
    refine ⟨.ref l, hv', .inl ⟨rfl, xs, .inl (.inl hl)⟩, g, ρ, M, F, O, _, w, A, h, hw, fun a H1 F1 O1 M1 da A1 s1 r1 q1 => ⟨g, ρ, M1, F1, O1, _, w, A1, q1, hw.mono s1, fun u H2 F2 O2 M2 d A2 s2 r2 q2 => ?_⟩⟩
    obtain ⟨l1, l2, e1, hz, ef, q3⟩ := chgR_of q2
    obtain ⟨v2, hv2, l3, ys, ev, hl2, rl2, hO2⟩ := A2.sl i _ e1
    rw [hv'] at hv2
    cases hv2
    cases ev
    unfold insF at ef
    split at ef
    · rename_i n
      split at ef
      · rename_i hn
        cases ef
        exact ⟨l, ys, n, u, rfl, by rw [show a = V.int n from r1], hl2, by rw [← rl2.len]; exact line_lt hz, hn.1, by omega, k1 _ _ _ _ F2 O2 (A2.chg (xs := ys) e1 hv' hO2 (((rl2.take n.toNat).app (RpL.one r2)).app (rl2.drop n.toNat))) (s1.trans s2) q3⟩
      · cases ef
    · cases ef
theorem ds_setA (i : Nat) {x : Str} {pt : Pos} (he : DE X W e pe) (hf : DE X W f pf) (hN : X.N[i]? = some x := by rfl) (hv : Vis X.env.scope x := by first | exact Or.inl rfl | exact Or.inr (Or.inl rfl) | exact Or.inr (Or.inr rfl)) (hd : (x == ("__debug__" : Str)) = false := by decide)
    (hcd : (x == ("__classdict__" : Str)) = false := by decide) (hs : swapsWithSole [.Subscript (.Name x p1) f pt] e pos.line X.env = pure false := by rfl) (hw : swappedStores [.Subscript (.Name x p1) f pt] e X.env = pure none := by rfl)
    (hA : ∀ v, assign (.Subscript (.Name x p1) f pt) X.env v = (do
      let ov ← holding [v] (eval (.Name x p1) X.env)
      let iv ← holding [v, ov] (eval f X.env)
      standAt pt
      holding [v, ov, iv] (setItem ov iv v)
      release [v, ov, iv] []) := by intro _; rfl) : DS X W (.Assign [.Subscript (.Name x p1) f pt] e pos) (dSetA i pe pf) := by
  refine ps_imp (ps_asg he (pg_sub (pv i hN hv hd hcd) hf set_list hA) hs hw) fun D σ H ⟨g, ρ, M, F, O, P, w, A, ⟨h0, h⟩, hw, k1, _⟩ => ?_
  obtain ⟨l0, e0⟩ := isOwn_of h0
  obtain ⟨v, hv', l, xs, rfl, hl, rl, hO⟩ := A.sl i _ e0
  refine ⟨g, ρ, M, F, O, _, w, A, h, hw, fun u H1 F1 O1 M1 dv A1 s1 r1 q1 => ⟨.ref l, hv', g, ρ, M1, F1, O1, _, w, A1, q1, hw.mono s1, fun y H2 F2 O2 M2 d A2 s2 r2 q2 => ?_⟩⟩
  obtain ⟨l1, l2, e1, hz, ef, q3⟩ := chgR_of q2
  obtain ⟨v2, hv2, l3, ys, ev, hl2, rl2, hO2⟩ := A2.sl i _ e1
  rw [hv'] at hv2
  cases hv2
  cases ev
  unfold setF at ef
  split at ef
  · rename_i n
    obtain ⟨j, ej, e2⟩ := Option.map_eq_some_iff.mp ef
    subst e2
    refine ⟨l, ys, n, j, rfl, show y = V.int n from r2, hl2, by rw [← rl2.len]; exact ej, ?_⟩
    exact k1 _ _ _ _ F2 O2 (A2.chg (xs := ys) e1 hv' hO2 (rl2.set j (r1.mono s2))) (s1.trans s2) q3
  · cases ef
/-- a + b, lists: a new list -/
def fCatL : D → D → (List D → Prop) → Prop
  | .lst a, .lst b, k => a.length + b.length ≤ 1000000 ∧ k (a ++ b)
  | _, _, _ => False
def dG2 (f : D → D → (List D → Prop) → Prop) (pa pb : PTE) : PTA := fun w ρ M q => pa w ρ M fun x M1 => pb w ρ M1 fun y M2 => f x y fun z => q z M2
theorem dl_cat (ha : DO X W e pe) (hb : DO X W f pf) : DL X W (.BinOp e .Add f pos) (dG2 fCatL pe pf) := pe_imp (pe_op op_cat ha hb) fun σ H Q ⟨g, ρ, M, F, O, q, w, A, p, hw, k⟩ =>
  ⟨g, ρ, M, F, O, _, w, A, p, hw, fun v H1 F1 O1 M1 x A1 s1 r1 q1 => ⟨g, ρ, M1, F1, O1, _, w, A1, q1, hw.mono s1, fun u H2 F2 O2 M2 y A2 s2 r2 q2 => by
    have r1' := r1.mono s2
    unfold fCatL at q2
    split at q2
    · obtain ⟨l, xs, e1, h1, t1⟩ := r1'.lst A2
      obtain ⟨b, ys, e2, h2, t2⟩ := r2.lst A2
      refine ⟨l, b, xs, ys, e1, e2, h1, h2, by rw [← t1.len, ← t2.len]; exact line_big q2.1, fun p hp => ?_⟩
      exact k p (xs ++ ys) _ F2 O2 M2 _ (A2.laid hp) (s1.trans s2) upd_same (t1.app t2) (A2.f0 hp) (A2.o0 hp) (A2.g0 hp) q2.2
    · exact q2.elim⟩⟩
/-- xs[::-1] -/
def fRev : G1 := fun x k => match x with | .lst l => k l.reverse | _ => False
theorem dl_rev {n : Nat} (ha : DO X W e pe) : DL X W (.Subscript e (.Slice none none (some (.UnaryOp .USub (.Constant (.int 1) n p1) p2)) p3) pos) (dG1 fRev pe) := pe_imp (pe_revL ha) fun σ H Q ⟨g, ρ, M, F, O, q, w, A, p, hw, k⟩ =>
  ⟨g, ρ, M, F, O, _, w, A, p, hw, fun v H1 F1 O1 M1 x A1 s1 r1 q1 => by
    unfold fRev at q1
    split at q1
    · obtain ⟨l, xs, e1, h1, t1⟩ := r1.lst A1
      exact ⟨l, xs, e1, .inl (.inl h1), fun p hp => k p xs.reverse _ F1 O1 M1 _ (A1.laid hp) s1 upd_same t1.rev (A1.f0 hp) (A1.o0 hp) (A1.g0 hp) q1⟩
    · exact q1.elim⟩
end
end Px

set_option Elab.async false
set_option linter.all false
set_option maxRecDepth 100000
namespace Px
open PySem PySem.Spec PyProof.Rows L2
/-! # defs with defaults; defs that call themselves -/
section
variable {P : Program} {w : World} {K : PySem.W.Frag} {mg : Str → Option Value} {base : Heap} {k : Nat} {f : Addr} {fd : FuncData} {ps N : List Str} {dvs : List V}
theorem FunD.gok {x qual : Str} {stm : Stmt} {sp : Sp} (Fn : L2.FunD K x qual (defArgs stm) (defBody stm) (defScope stm) dvs [] f fd) (S : FnScope N ps (defScope stm)) (hn : ∀ vs H Q E, sp vs H Q E → vs.length = ps.length)
    (hbody : ∀ (cdv : Value) (A : Around) (outer : List Env) (s : Shared) (H : Hp) (vs : List V) (Q : VK) (E : XK), Room k (A.deeper (envOfC qual (defScope stm) s.heap.objs.size f cdv)) → A.guards = some [] → sp vs H Q E →
      ∃ t : TS, PSs (cxOf (L2.CX P w) P w K mg base N qual (defScope stm) f cdv A outer s H E) (defBody stm) t ∧ t { nx := fun _ H' => Q .non H', rt := Q } (L2.start N vs) H) :
    FnG P w K mg base (k + 1) f fd ps sp := by
  obtain ⟨oc, od, dV, kV, doc, pm, an, cdv, ct, osl, rfl, lk, hcd, _, _⟩ := Fn.ex
  refine ⟨hn, fun A outer s H args us vs Q E hr hG e0 hb r hsp => ?_⟩
  have hl : vs.length = ps.length := hn _ _ _ _ hsp
  have KX : K.In s.heap := e0.mod.kin.keeps fun b o e => (e0.bs b o e).1
  have lim : s.heap.NoLimit := e0.mod.nolimit.keeps fun b o e => (e0.bs b o e).1
  have kinds : ∀ y ∈ ps.zip us, (defScope stm).names.lookup y.1 = some .local ∨ ((defScope stm).names.lookup y.1 = some .cell ∧ ((cellsFrom (s.heap.objs.size + 1) (defScope stm).names []).lookup y.1).isSome = true) := by
    rintro ⟨n, v⟩ hy
    rcases S.par n (List.of_mem_zip hy).1 with q | q
    · exact .inl q
    · exact .inr ⟨q, PySem.W.cellsFrom_some _ _ _ (.inl q)⟩
  refine codeAny_call_function hr.depth (KX _ _ lk) rfl S.co S.gen rfl (PySem.W.codeRec_of KX hcd) (hb _ _ _ _ ?_)
  refine wpAny_newFunctionEnv_cells S.kind kinds fun env he s1 x => ?_
  subst he
  refine ⟨lim.keeps x.toInCall.keep, codeAny_func ?_⟩
  obtain ⟨t, ht, hq⟩ := hbody cdv A outer s H vs Q E (hr.deeper _) hG hsp
  have I := inv_start (CX := L2.CX P w) (E := E) (qual := qual) (f := f) (cd := cdv) (A := A) S hr.hd e0 hl r x
  refine wpAny_mono (ht.run [] s1 (L2.start N vs) H { nx := fun _ H' => Q .non H', rt := Q } I hq) (fun fl s' hs => ?_) fun e s' hs => hs
  cases fl with
  | ret u =>
    obtain ⟨v, σ', H', J, rv, q⟩ := hs
    exact ⟨v, H', J.os, J.bare, J.base, J.hok, rv, q⟩
  | next =>
    obtain ⟨σ', H', J, q⟩ := hs
    exact ⟨.non, H', J.os, J.bare, J.base, J.hok, rfl, q⟩
  | brk =>
    obtain ⟨_, _, _, q⟩ := hs
    exact q.elim
  | cont =>
    obtain ⟨_, _, _, q⟩ := hs
    exact q.elim
theorem FunD.pok {x qual : Str} {stm : Stmt} {n : Nat} {sp : PSp} {p : PTS} (Fn : L2.FunD K x qual (defArgs stm) (defBody stm) (defScope stm) dvs [] f fd) (S : FnScope N ps (defScope stm)) (hn : ps.length = n) (hs : Shows sp N.length p)
    (hbody : ∀ (cdv : Value) (A : Around) (outer : List Env) (s : Shared) (H : Hp) (E : XK), Room k (A.deeper (envOfC qual (defScope stm) s.heap.objs.size f cdv)) → A.guards = some [] →
      DSs (cxOf (L2.CX P w) P w K mg base N qual (defScope stm) f cdv A outer s H E) (WE E) (defBody stm) p) :
    FnG P w K mg base (k + 1) f fd ps (toSp K n sp) := by
  refine FunD.gok Fn S (fun vs H Q E h => by rw [toSp_len h, hn]) fun cdv A outer s H vs Q E hr hG hsp => ⟨_, hbody cdv A outer s H E hr hG, ?_⟩
  obtain ⟨g, F, M, O, ds, q, e, _, A0, rp, hsp, hQ, hE⟩ := hsp
  refine ⟨_, _, _, _, _, _, _, A0.enter (N := N) rp, hs ds M q e hsp, ?_, ?_, ?_, ?_, ?_, ?_⟩
  · intro cls dd σ' H' ρ' M' F' O' fs A2 s2 x2 ⟨M2, h1, h2⟩
    exact hE cls dd H' F' _ M2 fs (A2.leave h1) x2 h2
  · intro σ' H' ρ' M' F' O' A2 s2 ⟨M2, h1, h2⟩
    exact hQ .non H' F' _ M2 .non (A2.leave h1) rfl h2
  · intro v σ' H' ρ' M' F' O' d A2 s2 r2 ⟨M2, h1, h2⟩
    exact hQ v H' F' _ M2 d (A2.leave h1) r2 h2
  · intro σ' H' ρ' M' F' O' A2 s2 z; exact z.elim
  · intro σ' H' ρ' M' F' O' A2 s2 z; exact z.elim
  · intro a xs σ' H' ρ' M' F' O' ds A2 s2 e1 e2 e3 e4 e5 z; exact z.elim
/-- what is never called -/
def spNever : PSp := fun _ _ _ _ => False
theorem FnG.never {k n : Nat} {f : Addr} {fd : FuncData} {ps : List Str} : FnG P w K mg base k f fd ps (toSp K n spNever) :=
  ⟨fun _ _ _ _ ⟨_, _, _, _, _, _, _, _, _, _, z, _⟩ => z.elim, fun _ _ _ _ _ _ _ _ _ _ _ _ _ _ ⟨_, _, _, _, _, _, _, _, _, _, z, _⟩ => z.elim⟩
end
/-- a def of the module with defaults: all are given, or all lack -/
structure DefV (K : PySem.W.Frag) (mg : Str → Option Value) (x : Str) (stm : Stmt) (ps : List Str) (dvs : List V) (a : Addr) (fd : FuncData) : Prop where
  f : L2.FunD K x x (defArgs stm) (defBody stm) (defScope stm) dvs [] a fd
  b : Binds K fd ps []
  bd : ∃ ds, Vals dvs ds ∧ Binds K fd ps ds
  g : mg x = some (.ref a)
section
variable {K : PySem.W.Frag} {x qual : Str} {params : Arguments} {body : List Stmt} {scope : Scope} {dvs : List V} {f : Addr} {fd : FuncData} {ps : List Str}
theorem FunD.bindsAll (F : FunD K x qual params body scope dvs [] f fd) (hd : dvs ≠ [])
    (h : ∀ (T : Addr) (kV doc pm : Value) (an : Option Addr) (cdv ct : Value) (us its : List Value), us.length = ps.length → its.length = dvs.length →
      ∃ k, bindArgs (PySem.W.fnOf x qual params body scope (.ref T) kV doc pm an cdv ct) ⟨us, []⟩ = seqItems? (.ref T) >>= k ∧ k (some its.toArray) = pure (ps.zip us)) : Binds K fd ps [] := by
  obtain ⟨ds, h1, h2⟩ := FunD.binds1 (ps := ps) F ps.length dvs.length hd (by omega) fun T kV doc pm an cdv ct us its e1 e2 => by
    obtain ⟨k, e3, e4⟩ := h T kV doc pm an cdv ct us its e1 e2
    exact ⟨k, e3, by rw [e4, ← e2, List.drop_length, List.append_nil]⟩
  have : ds = [] := by
    have := h1.length
    rw [List.drop_length] at this
    exact List.length_eq_zero_iff.mp this.symm
  rw [this] at h2
  exact h2
theorem kwbV_of (ks : List Str) (ix : List Nat) (F : FunD K x qual params body scope dvs [] f fd) (hd : dvs ≠ [])
    (h : ∀ (T : Addr) (kV doc pm : Value) (an : Option Addr) (cdv ct : Value) (ws its : List Value), (pick ix ws).length = ps.length → its.length = dvs.length →
      ∃ k, bindArgs (PySem.W.fnOf x qual params body scope (.ref T) kV doc pm an cdv ct) ⟨[], ks.zip ws⟩ = seqItems? (.ref T) >>= k ∧ k (some its.toArray) = pure (ps.zip (pick ix ws))) : KwB K fd ps ks ix := by
  obtain ⟨oc, od, dV, kV, doc, pm, an, cdv, ct, osl, rfl, lk, hcd, hD, hK⟩ := F.ex
  rcases hD with ⟨e, _⟩ | ⟨_, T, o, its, m, rfl, lT, oT, rT⟩
  · exact absurd e hd
  · intro s ws X hl
    obtain ⟨k, e1, e2⟩ := h T kV doc pm an cdv ct ws its hl rT.length.symm
    refine BindsTo.of_looks fun M => ?_
    rw [e1]
    exact looks_items X lT oT (.of_pure e2)
end
section
variable {K : PySem.W.Frag} {f T : Addr} {x : Str} {stm : Stmt} {oc kV doc pm cdv ct : Value} {od an : Option Addr} {osl : Array (Option Value)}
theorem funV_mk {qual : Str} {dvs : List V} {its : List Value} {toc : Value} {tod : Option Addr} {tn : Nat} {tsl : Array (Option Value)} (hd : dvs ≠ []) (h1 : K.lookup f = some ⟨oc, od, .func (PySem.W.fnOf x qual (defArgs stm) (defBody stm) (defScope stm) (.ref T) kV doc pm an cdv ct), osl⟩) (h2 : PySem.W.codeIn K cdv qual = true) (h3 : PySem.W.keepIn K (.ref f) = true)
    (hT : K.lookup T = some ⟨toc, tod, .seq its.toArray tn, tsl⟩) (hv : Vals dvs its) :
    L2.FunD K x qual (defArgs stm) (defBody stm) (defScope stm) dvs [] f (PySem.W.fnOf x qual (defArgs stm) (defBody stm) (defScope stm) (.ref T) kV doc pm an cdv ct) :=
  ⟨⟨oc, od, .ref T, kV, doc, pm, an, cdv, ct, osl, rfl, h1, h2, .inr ⟨hd, T, _, its, tn, rfl, hT, rfl, hv⟩, .inl rfl⟩, h3⟩
end
section
variable {X : Cx} {W : WX} {k n : Nat} {f : Addr} {fd : FuncData} {ps : List Str} {sp : PSp} {x : Str} {p pos : Pos} {e : Expr} {es : List Expr} {pl : PTA} {dd : List D} {dvs : List V}
theorem de_callV (Fg : FnG X.prog X.w X.K X.mg X.base k f fd ps (toSp X.K n sp)) (hn : ps.length = n) (hlen : ∀ ds M q e, sp ds M q e → ds.length = n) (hr : Room k X.A) (hG : X.A.guards = some []) (hg : Gl X x) (hm : X.mg x = some (.ref f))
    (hk : PySem.W.keepIn X.K (.ref f) = true) (hb : ∃ ds, Vals dvs ds ∧ Binds X.K fd ps ds) (hd : ∀ F, RpL X.K F dd dvs) (tk : Takes X W) (ha : DA X W (e :: es) pl) (hdb : (x == ("__debug__" : Str)) = false := by decide)
    (he : starEach (e :: es) X.env = (false, eval e X.env) :: starEach es X.env := by rfl) (hpl : (backTo pos (starEach es X.env)).any (·.1) = false := by rfl) : DE X W (.Call (.Name x p) (e :: es) [] pos) (dCall sp dd pl) := by
  obtain ⟨ds, h1, h2⟩ := hb
  exact de_callD Fg hn hlen hr hG hg hm hk h2 h1 hd tk ha hdb he hpl
end
/-! # `a, b, xs = e, f, <a new list>`: by a tuple -/
def dPar3Z (i j l : Nat) (pa pb : PTE) (pl : PTA) : PTS := fun w P ρ M => pa w ρ M fun a M1 => pb w ρ M1 fun b M2 => pl w ρ M2 fun ds M3 => P.nx (st (st (st ρ i (.val a)) j (.val b)) l (.own ds)) M3
section
variable {X : Cx} {W : WX} {pa pb : PTE} {pl : PTA}
theorem ds_par3Z (i j l : Nat) {x y z : Str} {a b c : Expr} {px py pz pt : Pos} {kt k2 pt2} {pos : Pos} (hc : X.calm = true) (hN : X.N.Nodup) (ha : DE X W a pa) (hb : DE X W b pb) (hcc : DL X W c pl)
    (hi : X.N[i]? = some x := by rfl) (hj : X.N[j]? = some y := by rfl) (hl : X.N[l]? = some z := by rfl) (hij : i ≠ j := by decide) (hil : i ≠ l := by decide) (hjl : j ≠ l := by decide)
    (hx : X.env.scope.names.lookup x = some .local := by rfl) (hy : X.env.scope.names.lookup y = some .local := by rfl) (hz : X.env.scope.names.lookup z = some .local := by rfl)
    (h1 : starEach [a, b, c] X.env = (false, eval a X.env) :: starEach [b, c] X.env := by rfl) (h2 : starEach [b, c] X.env = (false, eval b X.env) :: starEach [c] X.env := by rfl)
    (h3 : starEach [c] X.env = (false, eval c X.env) :: starEach [] X.env := by rfl)
    (hw : swappedStores [.Tuple [.Name x px, .Name y py, .Name z pz] kt pt] (.Tuple [a, b, c] k2 pt2) X.env = pure (some [x, y, z]) := by rfl)
    (hs : swapsWithSole [.Tuple [.Name x px, .Name y py, .Name z pz] kt pt] (.Tuple [a, b, c] k2 pt2) pos.line X.env = pure false := by rfl) :
    DS X W (.Assign [.Tuple [.Name x px, .Name y py, .Name z pz] kt pt] (.Tuple [a, b, c] k2 pt2) pos) (dPar3Z i j l pa pb pl) :=
  ps_imp (ps_par3 hc hN hi hj hl hij hil hjl hx hy hz (pa_cons ha (pa_cons hb (pa_cons hcc pa_nil h3) h2) h1) hw hs)
    fun D σ H ⟨g, ρ, M, F, O, P, w, A, h, hw, k1, _⟩ =>
    ⟨g, ρ, M, F, O, _, w, A, h, hw, fun v1 H1 F1 O1 M1 d1 A1 s1 r1 q1 => ⟨g, ρ, M1, F1, O1, _, w, A1, q1, hw.mono s1, fun v2 H2 F2 O2 M2 d2 A2 s2 r2 q2 => ⟨g, ρ, M2, F2, O2, _, w, A2, q2, hw.mono (s1.trans s2), fun t xs H3 F3 O3 M3 ds A3 s3 e1 e2 e3 e4 e5 q3 =>
      ⟨v1, v2, .ref t, rfl, k1 _ _ _ M3 F3 _ (((A3.put (i := i) (r1.mono (s2.trans s3))).put (i := j) (r2.mono s3)).putOwn (i := l) e1 (l := ds) e2 e3 e4 e5) ((s1.trans s2).trans s3) q3⟩⟩⟩⟩
theorem lev_le {j L n : Nat} (h : j ≤ L) : j ≤ L + n := Nat.le_trans h (Nat.le_add_right L n)
end
/-! # is, is not: bools -/
def fIsBl (neg : Bool) : F2
  | .bl a, .bl b, k => k (.bl (xor neg (decide (a = b))))
  | _, _, _ => False
section
variable {X : Cx} {W : WX} {K : PySem.W.Frag} {a b : Expr} {pa pb : PTE} {pos : Pos}
theorem opf_isBl : OpF K (fun x y H Q => ∃ a b, x = .bl a ∧ y = .bl b ∧ Q (.bl (decide (a = b))) H) (fIsBl false) := by
  intro g σ H ρ M F O x y v u k Q A rx ry h c
  unfold fIsBl at h
  split at h
  · rename_i a b
    refine ⟨a, b, rx.bl, ry.bl, ?_⟩
    rw [Bool.false_xor] at h
    exact c (.bl (decide (a = b))) _ H F O A (Same.refl F) rfl h
  · exact h.elim
theorem opf_isntBl : OpF K (fun x y H Q => ∃ a b, x = .bl a ∧ y = .bl b ∧ Q (.bl (!decide (a = b))) H) (fIsBl true) := by
  intro g σ H ρ M F O x y v u k Q A rx ry h c
  unfold fIsBl at h
  split at h
  · rename_i a b
    refine ⟨a, b, rx.bl, ry.bl, ?_⟩
    rw [Bool.true_xor] at h
    exact c (.bl (!decide (a = b))) _ H F O A (Same.refl F) rfl h
  · exact h.elim
theorem de_isBl (ha : DO X W a pa) (hb : DO X W b pb) : DE X W (.Compare a [.Is] [b] pos) (dOp (fIsBl false) pa pb) := de_cmp op_is_bl opf_isBl ha hb (nomark _)
theorem de_isntBl (ha : DO X W a pa) (hb : DO X W b pb) : DE X W (.Compare a [.IsNot] [b] pos) (dOp (fIsBl true) pa pb) := de_cmp op_isnot_bl opf_isntBl ha hb (nomark _)
theorem dt_isBl (ha : DO X W a pa) (hb : DO X W b pb) : DT X W (.Compare a [.Is] [b] pos) (dTst (dOp (fIsBl false) pa pb)) := dt_cmp op_is_bl opf_isBl ha hb (nomark _)
theorem dt_isntBl (ha : DO X W a pa) (hb : DO X W b pb) : DT X W (.Compare a [.IsNot] [b] pos) (dTst (dOp (fIsBl true) pa pb)) := dt_cmp op_isnot_bl opf_isntBl ha hb (nomark _)
end
end Px

set_option Elab.async false
set_option linter.all false
set_option maxRecDepth 100000
namespace Px
open PySem PySem.Spec PyProof.Rows L2
/-! # instances: operators of their class -/
def insC (C : Addr) (d : D) (M : Mm) : Prop := match d with
  | .obj C' _ _ => C' = C
  | .raw (.ref a) => ∃ fs, M a = some (.ins C fs)
  | _ => False
theorem insC_is {K : PySem.W.Frag} {g : Gh} {σ : L2.St} {H : Hp} {ρ : Rho} {M : Mm} {F : Hp} {O : Own} {C : Addr} {d : D} {u : V} (A : Ab K g σ H ρ M F O) (r : Rp K F d u) (h : insC C d M) : ∃ a dx fs, u = .ref a ∧ H a = some (.ins C dx fs) := by
  unfold insC at h
  split at h
  · cases h
    obtain ⟨a, dx, fs, e, e1, _⟩ := r
    exact ⟨a, dx, fs, e, A.sub _ _ e1⟩
  · rename_i a
    obtain ⟨fs, h1⟩ := h
    obtain ⟨dx, ys, e1, _⟩ := A.mu a _ h1
    exact ⟨a, dx, ys, r, e1⟩
  · exact h.elim
/-- x op y of two instances of C -/
def dBinM (C : Addr) (sp : PSp) (pa pb : PTE) : PTE := fun w ρ M q => pa w ρ M fun x M1 => pb w ρ M1 fun y M2 => insC C x M2 ∧ insC C y M2 ∧ sp [x, y] M2 q fun cls fs M3 => w cls fs ρ M3
/-- op x -/
def dUnM (C : Addr) (sp : PSp) (pa : PTE) : PTE := fun w ρ M q => pa w ρ M fun x M1 => insC C x M1 ∧ sp [x] M1 q fun cls fs M3 => w cls fs ρ M3
/-- y in x, y not in x: the def tells a bool -/
def dInM (neg : Bool) (C : Addr) (sp : PSp) (py px : PTE) : PTE := fun w ρ M q => py w ρ M fun y M1 => px w ρ M1 fun x M2 => insC C x M2 ∧ sp [x, y] M2 (fun d M3 => isB d fun b => q (.bl (if neg = true then !b else b)) M3) fun cls fs M3 => w cls fs ρ M3
/-- x[y] -/
def dGetM (C : Addr) (sp : PSp) (px py : PTE) : PTE := fun w ρ M q => px w ρ M fun x M1 => py w ρ M1 fun y M2 => insC C x M2 ∧ sp [x, y] M2 q fun cls fs M3 => w cls fs ρ M3
section
variable {X : Cx} {W : WX} {k n : Nat} {f C : Addr} {fd : FuncData} {ps : List Str} {sp : PSp} {pos : Pos} {a b : Expr} {pa pb : PTE}
theorem ins_inst {pins : List (Addr × Obj)} {σ : L2.St} {H : Hp} {s : Shared} {a dx : Addr} {fs : List (Str × V)} (I : Inv X pins σ H s) (h : H a = some (.ins C dx fs)) : ∃ o od, PySem.W.InstAt s.heap a o C (some od) := by
  obtain ⟨mA, Ob, _⟩ := ins_get I.hok h
  obtain ⟨od, J, _⟩ := Ob.look
  exact ⟨_, od, J⟩
theorem two_reading {K : PySem.W.Frag} {g : Gh} {σ : L2.St} {H : Hp} {ρ : Rho} {M : Mm} {F : Hp} {O : Own} {w : PWi} {q : PQ} {d e : D} {u v : V} {Q : VK} (A : Ab K g σ H ρ M F O) (hw : WOk K g F W w) (hlen : ∀ ds M q e, sp ds M q e → ds.length = n)
    (ru : Rp K F d u) (rv : Rp K F e v) (h : sp [d, e] M q fun cls fs M2 => w cls fs ρ M2) (k : ∀ v H' F' O' M' d, Ab K g σ H' ρ M' F' O' → Same F F' → Rp K F' d v → q d M' → Q v H') :
    toSp K n sp [u, v] H Q fun cls d H' => W cls d σ H' :=
  meth_reading A hw ru (show RpL K F [e] [v] from ⟨v, [], rfl, rv, rfl⟩) (hlen _ _ _ _ h) h k
theorem de_binM {op : Operator} (hself : PySem.W.selfFirst X.K C = true) (hs : PySem.W.findIn X.K (.ref C) (PySem.dunder op.info.2) = some (some (.ref f))) (hf : PySem.W.isFn X.K (.ref f) = true) (Fg : FnG X.prog X.w X.K X.mg X.base k f fd ps (toSp X.K n sp)) (hlen : ∀ ds M q e, sp ds M q e → ds.length = n)
    (hr : Room k X.A) (hG : X.A.guards = some []) (hb : Binds X.K fd ps []) (tk : Takes X W) (ha : DE X W a pa) (hbb : DE X W b pb) : DE X W (.BinOp a op b pos) (dBinM C sp pa pb) := by
  refine ⟨fun pins s σ H Q I ⟨g, ρ, M, F, O, q, w, A, pr, hw, kk⟩ => ?_⟩
  refine wpAny_BinOp (binT ha hbb I (R := fun x y H2 => ∃ a dx fs b dy gs, x = .ref a ∧ y = .ref b ∧ H2 a = some (.ins C dx fs) ∧ H2 b = some (.ins C dy gs) ∧ toSp X.K n sp [x, y] H2 Q fun cls d H' => W cls d σ H') ?_ fun v u s2 x y H2 I2 rx ry hh => ?_)
  · refine ⟨g, ρ, M, F, O, _, w, A, pr, hw, fun v H1 F1 O1 M1 d1 A1 s1 r1 q1 => ⟨g, ρ, M1, F1, O1, _, w, A1, q1, hw.mono s1, fun u H2 F2 O2 M2 d2 A2 s2 r2 q2 => ?_⟩⟩
    obtain ⟨i1, i2, q3⟩ := q2
    have r1' := Rp.mono s2 _ _ r1
    obtain ⟨a, dx, fs, e1, e2⟩ := insC_is A2 r1' i1
    obtain ⟨b, dy, gs, e3, e4⟩ := insC_is A2 r2 i2
    exact ⟨a, dx, fs, b, dy, gs, e1, e3, e2, e4, two_reading A2 ((hw.mono s1).mono s2) hlen r1' r2 q3 fun v3 H3 F3 O3 M3 d3 A3 s3 r3 q4 => kk v3 H3 F3 O3 M3 d3 A3 ((s1.trans s2).trans s3) r3 q4⟩
  · obtain ⟨a, dx, fs, b, dy, gs, e1, e2, h1, h2, q3⟩ := hh
    subst e1
    subst e2
    have ev : v = Value.ref a := rx
    have eu : u = Value.ref b := ry
    subst ev
    subst eu
    obtain ⟨o1, od1, J1⟩ := ins_inst I2 h1
    obtain ⟨o2, od2, J2⟩ := ins_inst I2 h2
    obtain ⟨m, hF⟩ := I2.fr
    refine PySem.W.binop_K (op := op) hF I2.ok.mod.kin J1 J2.type hself hs hf ?_
    refine wpAny_mono (run_g (us := [.ref a, .ref b]) (vs := [.ref a, .ref b]) (ds := []) (dvs := []) Fg hr hG hb .nil tk I2 (.cons rfl (.cons rfl .nil)) q3) (fun z s' hz => ?_) fun _ _ x => x
    obtain ⟨z', H', I', rz, qz⟩ := hz
    exact SlX.cmpback rz ⟨z', H', I', rz, qz⟩
theorem de_invM (hs : PySem.W.findIn X.K (.ref C) "__invert__" = some (some (.ref f))) (hf : PySem.W.isFn X.K (.ref f) = true) (Fg : FnG X.prog X.w X.K X.mg X.base k f fd ps (toSp X.K n sp)) (hlen : ∀ ds M q e, sp ds M q e → ds.length = n)
    (hr : Room k X.A) (hG : X.A.guards = some []) (hb : Binds X.K fd ps []) (tk : Takes X W) (ha : DE X W a pa) : DE X W (.UnaryOp .Invert a pos) (dUnM C sp pa) := by
  refine ⟨fun pins s σ H Q I ⟨g, ρ, M, F, O, q, w, A, pr, hw, kk⟩ => ?_⟩
  refine UnaryOp_ (thn (ha.run pins s σ H (fun x H1 => ∃ a dx fs, x = .ref a ∧ H1 a = some (.ins C dx fs) ∧ toSp X.K n sp [x] H1 Q fun cls d H' => W cls d σ H') I ?_) fun v s1 hh => ?_)
  · refine ⟨g, ρ, M, F, O, _, w, A, pr, hw, fun v H1 F1 O1 M1 d1 A1 s1 r1 q1 => ?_⟩
    obtain ⟨i1, q2⟩ := q1
    obtain ⟨a, dx, fs, e1, e2⟩ := insC_is A1 r1 i1
    exact ⟨a, dx, fs, e1, e2, meth_reading A1 (hw.mono s1) r1 (show RpL X.K F1 [] [] from rfl) (hlen _ _ _ _ q2) q2 fun v3 H3 F3 O3 M3 d3 A3 s3 r3 q3 => kk v3 H3 F3 O3 M3 d3 A3 (s1.trans s3) r3 q3⟩
  · obtain ⟨x, H1, I1, rx, a, dx, fs, e1, h1, q2⟩ := hh
    subst e1
    have ev : v = Value.ref a := rx
    subst ev
    obtain ⟨o1, od1, J1⟩ := ins_inst I1 h1
    obtain ⟨m, hF⟩ := I1.fr
    exact PySem.W.ksp_inv hF I1.ok.mod.kin J1 hs hf (run_g (us := [.ref a]) (vs := [.ref a]) (ds := []) (dvs := []) Fg hr hG hb .nil tk I1 (.cons rfl .nil) q2)
end
end Px

set_option Elab.async false
set_option linter.all false
set_option maxRecDepth 100000
namespace Px
open PySem PySem.Spec PyProof.Rows L2
/-! # instances: in, not in, == by their class -/
section
variable {X : Cx} {W : WX} {k n : Nat} {f C : Addr} {fd : FuncData} {ps : List Str} {sp : PSp} {pos : Pos} {a b : Expr} {pa pb : PTE}
theorem inM_run {neg : Bool} {pins : List (Addr × Obj)} {σ : L2.St} {H : Hp} {s : Shared} {Q : VK} {x : Addr} {y : V} {v : Value} {dx : Addr} {fs : List (Str × V)} (hs : PySem.W.findIn X.K (.ref C) "__contains__" = some (some (.ref f))) (hf : PySem.W.isFn X.K (.ref f) = true)
    (Fg : FnG X.prog X.w X.K X.mg X.base k f fd ps (toSp X.K n sp)) (hr : Room k X.A) (hG : X.A.guards = some []) (hb : Binds X.K fd ps []) (tk : Takes X W) (I : Inv X pins σ H s) (hx : H x = some (.ins C dx fs)) (ry : RelV y v)
    (h : toSp X.K n sp [.ref x, y] H (fun r H' => ∃ b, r = .bl b ∧ Q (.bl (if neg = true then !b else b)) H') fun cls d H' => W cls d σ H') :
    wpAny (model X.prog X.w) X.A (compareOp (if neg = true then .NotIn else .In) v (.ref x)) (EP X pins σ Q) X.xe s := by
  obtain ⟨o, od, J⟩ := ins_inst I hx
  obtain ⟨m, hF⟩ := I.fr
  have go := run_g (us := [.ref x, v]) (vs := [.ref x, y]) (ds := []) (dvs := []) Fg hr hG hb .nil tk I (.cons rfl (.cons ry .nil)) h
  cases neg with
  | false =>
    refine PySem.W.in_K hF I.ok.mod.kin J hs hf (wpAny_mono go (fun z s' hz => ?_) fun _ _ x => x)
    obtain ⟨z', H', I', rz, b, eb, qb⟩ := hz
    refine wpAny_mono (tru_ok pins s' σ H' z' z (fun c H2 => Q (.bl c) H2) I' rz ⟨b, by rw [eb]; rfl, qb⟩) (fun c s2 hc => ?_) fun _ _ x => x
    obtain ⟨H2, I2, q2⟩ := hc
    exact ⟨.bl c, H2, I2, rfl, q2⟩
  | true =>
    refine PySem.W.notIn_K hF I.ok.mod.kin J hs hf (wpAny_mono go (fun z s' hz => ?_) fun _ _ x => x)
    obtain ⟨z', H', I', rz, b, eb, qb⟩ := hz
    refine wpAny_mono (tru_ok pins s' σ H' z' z (fun c H2 => Q (.bl (!c)) H2) I' rz ⟨b, by rw [eb]; rfl, qb⟩) (fun c s2 hc => ?_) fun _ _ x => x
    obtain ⟨H2, I2, q2⟩ := hc
    exact ⟨.bl (!c), H2, I2, rfl, q2⟩
theorem de_inM {neg : Bool} (hs : PySem.W.findIn X.K (.ref C) "__contains__" = some (some (.ref f))) (hf : PySem.W.isFn X.K (.ref f) = true) (Fg : FnG X.prog X.w X.K X.mg X.base k f fd ps (toSp X.K n sp)) (hlen : ∀ ds M q e, sp ds M q e → ds.length = n)
    (hr : Room k X.A) (hG : X.A.guards = some []) (hb : Binds X.K fd ps []) (tk : Takes X W) (ha : DE X W a pa) (hbb : DE X W b pb) (hm : behindInMarks (if neg = true then .NotIn else .In) b = false) :
    DE X W (.Compare a [if neg = true then .NotIn else .In] [b] pos) (dInM neg C sp pa pb) := by
  refine ⟨fun pins s σ H Q I ⟨g, ρ, M, F, O, q, w, A, pr, hw, kk⟩ => ?_⟩
  refine wpAny_Compare1 (binT ha hbb I (R := fun y x H2 => ∃ a dx fs, x = .ref a ∧ H2 a = some (.ins C dx fs) ∧ toSp X.K n sp [x, y] H2 (fun r H' => ∃ b, r = .bl b ∧ Q (.bl (if neg = true then !b else b)) H') fun cls d H' => W cls d σ H') ?_ fun v u s2 y x H2 I2 ry rx hh => ?_) hm
  · refine ⟨g, ρ, M, F, O, _, w, A, pr, hw, fun v H1 F1 O1 M1 d1 A1 s1 r1 q1 => ⟨g, ρ, M1, F1, O1, _, w, A1, q1, hw.mono s1, fun u H2 F2 O2 M2 d2 A2 s2 r2 q2 => ?_⟩⟩
    obtain ⟨i2, q3⟩ := q2
    have r1' := Rp.mono s2 _ _ r1
    obtain ⟨a, dx, fs, e1, e2⟩ := insC_is A2 r2 i2
    refine ⟨a, dx, fs, e1, e2, two_reading A2 ((hw.mono s1).mono s2) hlen r2 r1' q3 fun v3 H3 F3 O3 M3 d3 A3 s3 r3 q4 => ?_⟩
    obtain ⟨b, eb, q5⟩ := isB_run r3 q4
    exact ⟨b, eb, kk (.bl (if neg = true then !b else b)) H3 F3 O3 M3 (.bl (if neg = true then !b else b)) A3 ((s1.trans s2).trans s3) rfl q5⟩
  · obtain ⟨a, dx, fs, e1, h1, q3⟩ := hh
    subst e1
    have eu : u = Value.ref a := rx
    subst eu
    exact inM_run hs hf Fg hr hG hb tk I2 h1 ry q3
theorem de_eqM (hs : PySem.W.findIn X.K (.ref C) "__eq__" = some (some (.ref f))) (hf : PySem.W.isFn X.K (.ref f) = true) (Fg : FnG X.prog X.w X.K X.mg X.base k f fd ps (toSp X.K n sp)) (hlen : ∀ ds M q e, sp ds M q e → ds.length = n)
    (hr : Room k X.A) (hG : X.A.guards = some []) (hb : Binds X.K fd ps []) (tk : Takes X W) (ha : DE X W a pa) (hbb : DE X W b pb) (hm : behindInMarks .Eq b = false := by rfl) : DE X W (.Compare a [.Eq] [b] pos) (dBinM C sp pa pb) := by
  refine ⟨fun pins s σ H Q I ⟨g, ρ, M, F, O, q, w, A, pr, hw, kk⟩ => ?_⟩
  refine wpAny_Compare1 (binT ha hbb I (R := fun x y H2 => ∃ a dx fs b dy gs, x = .ref a ∧ y = .ref b ∧ H2 a = some (.ins C dx fs) ∧ H2 b = some (.ins C dy gs) ∧ toSp X.K n sp [x, y] H2 Q fun cls d H' => W cls d σ H') ?_ fun v u s2 x y H2 I2 rx ry hh => ?_) hm
  · refine ⟨g, ρ, M, F, O, _, w, A, pr, hw, fun v H1 F1 O1 M1 d1 A1 s1 r1 q1 => ⟨g, ρ, M1, F1, O1, _, w, A1, q1, hw.mono s1, fun u H2 F2 O2 M2 d2 A2 s2 r2 q2 => ?_⟩⟩
    obtain ⟨i1, i2, q3⟩ := q2
    have r1' := Rp.mono s2 _ _ r1
    obtain ⟨a, dx, fs, e1, e2⟩ := insC_is A2 r1' i1
    obtain ⟨b, dy, gs, e3, e4⟩ := insC_is A2 r2 i2
    exact ⟨a, dx, fs, b, dy, gs, e1, e3, e2, e4, two_reading A2 ((hw.mono s1).mono s2) hlen r1' r2 q3 fun v3 H3 F3 O3 M3 d3 A3 s3 r3 q4 => kk v3 H3 F3 O3 M3 d3 A3 ((s1.trans s2).trans s3) r3 q4⟩
  · obtain ⟨a, dx, fs, b, dy, gs, e1, e2, h1, h2, q3⟩ := hh
    subst e1
    subst e2
    have ev : v = Value.ref a := rx
    have eu : u = Value.ref b := ry
    subst ev
    subst eu
    obtain ⟨o1, od1, J1⟩ := ins_inst I2 h1
    obtain ⟨o2, od2, J2⟩ := ins_inst I2 h2
    obtain ⟨m, hF⟩ := I2.fr
    show wpAny _ _ (richCompare .Eq (.ref a) (.ref b)) _ _ _
    refine PySem.W.cmp_K (op := .Eq) (tb := .ref C) hr.units0 hF I2.ok.mod.kin J1 J2.type (by unfold PySem.W.notFirst; rw [beq_self_eq_true]; rfl) hs hf ?_
    refine wpAny_mono (run_g (us := [.ref a, .ref b]) (vs := [.ref a, .ref b]) (ds := []) (dvs := []) Fg hr hG hb .nil tk I2 (.cons rfl (.cons rfl .nil)) q3) (fun z s' hz => ?_) fun _ _ x => x
    obtain ⟨z', H', I', rz, qz⟩ := hz
    exact SlX.cmpback rz ⟨z', H', I', rz, qz⟩
end
end Px

set_option Elab.async false
set_option linter.all false
set_option maxRecDepth 100000
namespace Px
open PySem PySem.Spec PyProof.Rows L2
/-! # isinstance(x, C), C an own class -/
def fIsC (C : Addr) : F1 := fun d k => match d with
  | .obj C' _ _ => C' = C ∧ k (.bl true)
  | d => (tyD d).isSome = true ∧ k (.bl false)
structure IsC (K : PySem.W.Frag) (C : Addr) : Prop where
  own : PySem.W.kitOne K (.ref C) (.ref C) = some true
  tys : ∀ t ∈ tys, PySem.W.kitOne K (.type t) (.ref C) = some false
  cl : Cls K C
  ha : PySem.W.findIn K (.ref C) "__class__" = some (some (.builtin "object.__class__"))
  hn : PySem.W.specialIn K (.builtin "object.__class__") "__get__" = some (some (.builtin "getset_descriptor.__get__"))
  tk : PySem.W.takesIn K (.builtin "object.__class__") = some true
  mro : PySem.W.mroIn K C (.type "object") = some true
section
variable {X : Cx} {W : WX} {C : Addr} {a : Expr} {pa : PTE} {p p2 pos : Pos} {x2 : Str}
theorem de_isC (hi : IsC X.K C) (hg : Gl X "isinstance") (hm : X.mg "isinstance" = none) (hg2 : Gl X x2) (hm2 : X.mg x2 = some (.ref C)) (ha : DE X W a pa) (hd2 : (x2 == ("__debug__" : Str)) = false := by decide)
    (he : starEach [a, .Name x2 p2] X.env = (false, eval a X.env) :: starEach [.Name x2 p2] X.env := by rfl) (he2 : starEach [.Name x2 p2] X.env = (false, eval (.Name x2 p2) X.env) :: starEach [] X.env := by rfl)
    (hpl : (backTo pos (starEach [.Name x2 p2] X.env)).any (·.1) = false := by rfl) : DE X W (.Call (.Name "isinstance" p) [a, .Name x2 p2] [] pos) (dB1 (fIsC C) pa) :=
  pe_imp (pe_callB call_isi hg hm (by decide +kernel) (pa_cons ha (pa_cons (pe_glob (v := .ref C) hg2 hm2 rfl hd2) pa_nil he2) he) (by decide) (by decide) he hpl) fun σ H Q ⟨g, ρ, M, F, O, q, w, A, pr, hw, k⟩ =>
  ⟨g, ρ, M, F, O, _, w, A, pr, hw, fun v H1 F1 O1 M1 d A1 s1 r1 q1 => by
    have oth : ∀ t, tyD d = some t → q (.bl false) M1 → rIsi X.K [v, .ref C] H1 Q := fun t e q2 =>
      ⟨v, .ref C, _, _, false, rfl, .own C, vw_ty A1 (.inl r1) e, hi.tys t (tyD_mem e), k (.bl false) H1 F1 O1 M1 (.bl false) A1 s1 rfl q2⟩
    cases d with
    | obj C' ns l =>
      obtain ⟨rfl, q2⟩ := q1
      obtain ⟨a, dx, fs, e, e1, _⟩ := r1
      subst e
      exact ⟨_, .ref C', .ref C', _, true, rfl, .own C', .base (.ins (A1.sub _ _ e1) hi.cl hi.ha hi.hn hi.tk hi.mro), hi.own, k (.bl true) H1 F1 O1 M1 (.bl true) A1 s1 rfl q2⟩
    | non => exact oth _ rfl q1.2
    | bl b => exact oth _ rfl q1.2
    | int i => exact oth _ rfl q1.2
    | str s => exact oth _ rfl q1.2
    | tup l => exact oth _ rfl q1.2
    | lst l => exact oth _ rfl q1.2
    | dic ks vs => exact oth _ rfl q1.2
    | scr ns => exact oth _ rfl q1.2
    | raw v => exact (Bool.false_ne_true q1.1).elim
    | clo _ _ _ _ _ => exact (Bool.false_ne_true q1.1).elim
    | exv _ _ _ _ _ => exact (Bool.false_ne_true q1.1).elim⟩
end
end Px

set_option Elab.async false
set_option linter.all false
set_option maxRecDepth 100000
namespace Px
open PySem PySem.Spec PyProof.Rows L2
/-! # what a walk's text tells of own classes -/
/-- a def of the class at C -/
structure MethT (K : PySem.W.Frag) (C : Addr) (m qual : Str) (stm : Stmt) (ps : List Str) (a : Addr) (fd : FuncData) : Prop where
  f : L2.Fun K m qual stm a fd
  b : Binds K fd ps []
  at_ : PySem.W.findIn K (.ref C) m = some (some (.ref a))
  fn : PySem.W.isFn K (.ref a) = true
structure ClsT (K : PySem.W.Frag) (mg : Str → Option Value) (x : Str) (C : Addr) : Prop where
  g : mg x = some (.ref C)
  makes : PySem.W.makesIn K C = true
  kp : PySem.W.keepIn K (.ref C) = true
  first : PySem.W.selfFirst K C = true
  is : IsC K C
section
variable {K : PySem.W.Frag} {mg : Str → Option Value} {x m qual : Str} {C a : Addr} {stm : Stmt} {ps : List Str} {fd : FuncData}
theorem MethT.meth (t : MethT K C m qual stm ps a fd) : Meth K C m a := ⟨t.at_, t.fn, t.f.kp⟩
theorem ClsT.maker (t : ClsT K mg x C) (i : MethT K C "__init__" qual stm ps a fd) : L2.Mk K C a := ⟨t.makes, i.at_, i.fn, t.kp⟩
theorem ClsT.cl (t : ClsT K mg x C) : Cls K C := t.is.cl
end
end Px

set_option Elab.async false
set_option linter.all false
set_option maxRecDepth 100000
namespace Px
open PySem PySem.Spec PyProof.Rows L2
/-! # list(x) -/
def fListC : G1 := fun x k => match x with
  | .lst l => k l
  | .tup l => k l
  | _ => False
section
variable {X : Cx} {W : WX} {a : Expr} {pa : PTE} {p pos : Pos}
theorem dl_listc (hg : Gl X "list") (hm : X.mg "list" = none) (ha : DO X W a pa) (he : starEach [a] X.env = (false, eval a X.env) :: starEach [] X.env := by rfl) (hpl : (backTo pos (starEach [] X.env)).any (·.1) = false := by rfl) :
    DL X W (.Call (.Name "list" p) [a] [] pos) (dG1 fListC pa) := dl_t1 call_list_of (f := fListC) (fun g σ H ρ M F O x v k Q A rx h c => by
    cases x with
    | lst l =>
      obtain ⟨q, xs, e1, h1, rl⟩ := rx.lst A
      exact ⟨q, xs, by rw [e1], .inl (.inl (.inl h1)), fun t ht => c l t xs ht rl h⟩
    | tup l =>
      obtain ⟨q, xs, e1, h1, rl⟩ := rx.tupR
      exact ⟨q, xs, by rw [e1], .inr (same_t A.sub h1), fun t ht => c l t xs ht rl h⟩
    | _ => exact (show False from h).elim) hg hm (by decide +kernel) ha (by decide) (by decide) he hpl
end
end Px

set_option Elab.async false
set_option linter.all false
set_option maxRecDepth 100000
namespace Px
open PySem PySem.Spec PyProof.Rows L2
/-! # data that is bounded; what bends it (`_law_bent`) -/
/-- a text that repr takes -/
def SOk (s : Str) : Prop := PyData.strOk s = true ∧ PyData.leavesShort 70 (.str s) = true ∧ PyData.weight (.str s) ≤ 211
def Gd (L B : Nat) : Nat → D → Prop
  | _, .non => True
  | _, .bl _ => True
  | _, .int i => i.natAbs ≤ B
  | _, .str s => SOk s
  | _, .dic [] [] => True
  | n + 1, .tup l => l.length ≤ L ∧ ∀ x ∈ l, Gd L B n x
  | n + 1, .lst l => l.length ≤ L ∧ ∀ x ∈ l, Gd L B n x
  | _, _ => False
theorem Gd.mono {L B L' B' : Nat} (hL : L ≤ L') (hB : B ≤ B') : ∀ {n n' : Nat} {d : D}, n ≤ n' → Gd L B n d → Gd L' B' n' d
  | _, _, .non, _, _ => by simp [Gd]
  | _, _, .bl _, _, _ => by simp [Gd]
  | _, _, .int i, _, h => by simp only [Gd] at h ⊢; omega
  | _, _, .str s, _, h => by simp only [Gd] at h ⊢; exact h
  | _, _, .dic [] [], _, _ => by simp [Gd]
  | n + 1, n' + 1, .tup l, hn, h => by
    simp only [Gd] at h ⊢
    exact ⟨by omega, fun x hx => Gd.mono hL hB (by omega) (h.2 x hx)⟩
  | n + 1, n' + 1, .lst l, hn, h => by
    simp only [Gd] at h ⊢
    exact ⟨by omega, fun x hx => Gd.mono hL hB (by omega) (h.2 x hx)⟩
  | 0, _, .tup _, _, h => by simp [Gd] at h
  | 0, _, .lst _, _, h => by simp [Gd] at h
  | _ + 1, 0, .tup _, hn, _ => by omega
  | _ + 1, 0, .lst _, hn, _ => by omega
  | _, _, .dic (_ :: _) _, _, h => by simp [Gd] at h
  | _, _, .dic [] (_ :: _), _, h => by simp [Gd] at h
  | _, _, .obj _ _ _, _, h => by simp [Gd] at h
  | _, _, .raw _, _, h => by simp [Gd] at h
  | _, _, .scr _, _, h => by simp [Gd] at h
  | _, _, .clo .., _, h => by simp [Gd] at h
  | _, _, .exv .., _, h => by simp [Gd] at h
theorem Gd.plain {L B n : Nat} {d : D} (h : Gd L B n d) : plain d = true := by
  cases d with
  | dic a b => rcases a with _ | ⟨x, y⟩ <;> rcases b with _ | ⟨z, u⟩ <;> first | rfl | (exfalso; revert h; simp [Gd]; done)
  | _ => first | rfl | (exfalso; revert h; simp [Gd]; done)
theorem Gd.tup {L B n : Nat} {l : List D} (h : Gd L B n (.tup l)) : ∃ m, n = m + 1 ∧ l.length ≤ L ∧ ∀ x ∈ l, Gd L B m x := by
  cases n with
  | zero => simp [Gd] at h
  | succ m => simp only [Gd] at h; exact ⟨m, rfl, h⟩
theorem Gd.lst {L B n : Nat} {l : List D} (h : Gd L B n (.lst l)) : ∃ m, n = m + 1 ∧ l.length ≤ L ∧ ∀ x ∈ l, Gd L B m x := by
  cases n with
  | zero => simp [Gd] at h
  | succ m => simp only [Gd] at h; exact ⟨m, rfl, h⟩
theorem Gd.parts {L B n : Nat} {d : D} (h : Gd L B n d) : parts d = true := by
  cases d with
  | tup l =>
    obtain ⟨m, _, _, h2⟩ := h.tup
    exact List.all_eq_true.mpr fun x hx => (h2 x hx).plain
  | _ => rfl
theorem odd_gd {d : D} (h : d ∈ oddL) {L B : Nat} (hL : 1 ≤ L) (hB : 10 ^ 29 ≤ B) {n : Nat} (hn : 1 ≤ n) : Gd L B n d := by
  have key : ∀ d ∈ oddL, Gd 1 (10 ^ 29) 1 d := by
    intro d h
    simp only [oddL, List.mem_cons, List.not_mem_nil, or_false] at h
    rcases h with rfl | rfl | rfl | rfl | rfl | rfl | rfl | rfl | rfl | rfl | rfl | rfl | rfl | rfl | rfl | rfl | rfl | rfl <;> simp [Gd] <;> (try unfold SOk) <;> decide +kernel
  exact Gd.mono hL hB hn (key d h)
def bentQ (L B n : Nat) (q : PQ) (M : Mm) : Prop := ∀ d, Gd L B n d → q d M
def spn__law_bent (C : Cl) : Nat → PSp
  | 0 => spNever
  | n + 1 => fun ds M q _ => ar3 ds fun dr m sp => asDraw dr M (∃ L B N S l, sp = .lst l ∧ N ≤ n ∧ Gd L B N m ∧ (∀ x ∈ l, Gd L B S x) ∧ (1 ≤ L ∧ L < 100000 ∧ 10 ^ 29 ≤ B ∧ 1 ≤ S ∧ l.length < 100000) ∧ bentQ (L + 1) (B + 2) (N + S) q M)
def sp__law_bent (C : Cl) : PSp := spn__law_bent C 8
theorem ln__law_bent (C : Cl) : ∀ n ds M q e, spn__law_bent C n ds M q e → ds.length = 3
  | 0, _, _, _, _, h => h.elim
  | _ + 1, _, _, _, _, h => ar3_len h
def rd__law_bent (C : Cl) (n : Nat) : PTS := (dSeq (dIfS (dOr (dNot (dTst (dB1 (fIsi2 "tuple" "list") (dVar 1)))) (dOr (dTst (dOp fEq (dB1 fLen (dVar 1)) (dC (.int 0)))) (dTst (dOp fEq (dCall sp_take [] (dCons (dVar 0) (dCons (dC (.int 7)) dNil))) (dC (.int 0)))))) (dSeq (dIfS (dAnd (dTst (dB1 (fIsi "int") (dVar 1))) (dAnd (dNot (dTst (dB1 (fIsi "bool") (dVar 1)))) (dTst (dOp fEq (dCall sp_take [] (dCons (dVar 0) (dCons (dC (.int 2)) dNil))) (dC (.int 0)))))) (dRet (dOp fAdd (dVar 1) (dCall sp_pick [] (dCons (dVar 0) (dCons (dL (dLst (dCons (dC (.int 1)) (dCons (dNeg (dC (.int 1))) (dCons (dC (.int 2)) dNil))))) dNil))))) dNext)
    (dRet (dCall sp_pick [] (dCons (dVar 0) (dCons (dOp fAdd (dVar 2) (dL (dLst (dCons (dCall (sp__law_odd C) [] (dCons (dVar 0) dNil)) dNil)))) dNil))))) dNext)
    (dSeq (dPar3Z 3 4 5 (dCall sp_take [] (dCons (dVar 0) (dCons (dB1 fLen (dVar 1)) dNil))) (dCall sp_take [] (dCons (dVar 0) (dCons (dC (.int 9)) dNil))) (dG1 fListC (dVar 1)))
    (dSeq (dIfS (dTst (dOp fEq (dVar 4) (dC (.int 0)))) (dPopA 5 (dVar 3)) (dIfS (dTst (dOp fEq (dVar 4) (dC (.int 1)))) (dIns 5 (dVar 3) (dOp fIx (dOwn 5) (dVar 3))) (dIfS (dTst (dOp fEq (dVar 4) (dC (.int 2)))) (dSeq (dSet 6 (dSl (dOwn 5) (dPt (dVar 3)) (dPt (dOp fAdd (dVar 3) (dC (.int 2))))))
    (dSetO 5 (dG2 fCatL (dOp fAdd (dSl (dOwn 5) dNo (dPt (dVar 3))) (dL (dG1 fRev (dVar 6)))) (dSl (dOwn 5) (dPt (dOp fAdd (dVar 3) (dC (.int 2)))) dNo)))) (dIfS (dTst (dOp fEq (dVar 4) (dC (.int 3)))) (dIns 5 (dVar 3) (dCall sp_pick [] (dCons (dVar 0) (dCons (dOp fAdd (dVar 2) (dL (dLst (dCons (dCall (sp__law_odd C) [] (dCons (dVar 0) dNil)) dNil)))) dNil)))) (dIfS (dAnd (dTst (dOp fEq (dVar 4) (dC (.int 4)))) (dTst (dOp fEq (dCall sp_take [] (dCons (dVar 0) (dCons (dC (.int 3)) dNil))) (dC (.int 0))))) (dFrz 5 (dRet (dIf (dTst (dB1 (fIsi "tuple") (dVar 1))) (dVar 5) (dB1 fTup (dOwn 5))))) (dSetA 5 (dCall (spn__law_bent C n) [] (dCons (dVar 0) (dCons (dOp fIx (dOwn 5) (dVar 3)) (dCons (dVar 2) dNil)))) (dVar 3)))))))
    (dFrz 5 (dRet (dIf (dTst (dB1 (fIsi "tuple") (dVar 1))) (dB1 fTup (dOwn 5)) (dVar 5)))))))
def bLeaf (C : Cl) : PTS := (dSeq (dIfS (dAnd (dTst (dB1 (fIsi "int") (dVar 1))) (dAnd (dNot (dTst (dB1 (fIsi "bool") (dVar 1)))) (dTst (dOp fEq (dCall sp_take [] (dCons (dVar 0) (dCons (dC (.int 2)) dNil))) (dC (.int 0)))))) (dRet (dOp fAdd (dVar 1) (dCall sp_pick [] (dCons (dVar 0) (dCons (dL (dLst (dCons (dC (.int 1)) (dCons (dNeg (dC (.int 1))) (dCons (dC (.int 2)) dNil))))) dNil))))) dNext)
    (dRet (dCall sp_pick [] (dCons (dVar 0) (dCons (dOp fAdd (dVar 2) (dL (dLst (dCons (dCall (sp__law_odd C) [] (dCons (dVar 0) dNil)) dNil)))) dNil)))))
theorem bLeaf_ok (C : Cl) {w : PWi} {P : PEnds} {M : Mm} {a : Addr} {m : D} {l : List D} {x3 x4 x5 x6 : Option Sv} (hm : M a = some .draw) (hp : plain m = true) (hl : l.length < 100000) (hi : ∀ i, m = .int i → ∀ x ∈ [D.int 1, .int (-1), .int 2], ∀ j, x = .int j → P.rt (.int (i + j)) M)
    (ho : ∀ x ∈ l, P.rt x M) (hod : ∀ x ∈ oddL, P.rt x M) : bLeaf C w P [some (.val (.raw (.ref a))), some (.val m), some (.val (.lst l)), x3, x4, x5, x6] M := by
  have one : (1 : Nat) ≤ 1000000 := by decide
  have pk : (dRet (dCall sp_pick [] (dCons (dVar 0) (dCons (dOp fAdd (dVar 2) (dL (dLst (dCons (dCall (sp__law_odd C) [] (dCons (dVar 0) dNil)) dNil)))) dNil)))) w P [some (.val (.raw (.ref a))), some (.val m), some (.val (.lst l)), x3, x4, x5, x6] M := by
    refine ⟨hm, fun x hx => ⟨one, ?_, hm, ⟨?_, ?_⟩, fun y hy => ?_⟩⟩
    · show l.length + 1 ≤ 1000000; omega
    · rw [List.length_append]; show 0 < l.length + 1; omega
    · rw [List.length_append]; show l.length + 1 ≤ 100000; omega
    · rcases List.mem_append.mp hy with h | h
      · exact ho y h
      · rw [List.mem_singleton.mp h]; exact hod x hx
  cases m with
  | int i =>
    refine ⟨hm, ⟨by decide, by decide⟩, fun k h0 h1 => ⟨rfl, ?_⟩⟩
    show if decide (k = 0) = true then _ else _
    by_cases hk : k = 0
    · refine itT (decide_eq_true hk) ?_
      refine ⟨by decide, hm, ⟨by decide, by decide⟩, fun x hx => ?_⟩
      have : ∃ j, x = .int j := by
        simp only [List.mem_cons, List.not_mem_nil, or_false] at hx
        rcases hx with rfl | rfl | rfl <;> exact ⟨_, rfl⟩
      obtain ⟨j, rfl⟩ := this
      exact hi i rfl _ hx j rfl
    · exact itF (decide_eq_false hk) pk
  | _ => first | exact pk | (exfalso; revert hp; simp [plain, tyD]; done)
theorem len_log {n : Nat} (h : n < 100000) : (n : Int).natAbs.log2 < 9000 := by
  rw [Int.natAbs_natCast]
  by_cases z : n = 0
  · rw [z]; decide
  · have := (Nat.log2_lt z).mpr (show n < 2 ^ 17 by omega)
    omega
theorem gd_con {L B n : Nat} {l : List D} (h : l.length ≤ L) (h2 : ∀ x ∈ l, Gd L B n x) : Gd L B (n + 1) (.tup l) ∧ Gd L B (n + 1) (.lst l) := by
  simp only [Gd]
  exact ⟨⟨h, h2⟩, h, h2⟩
theorem cut_mem {l : List D} {lo hi : Option Int} {x : D} (h : x ∈ cutD l lo hi) : x ∈ l := List.mem_of_mem_drop (List.mem_of_mem_take h)
theorem cut_len (l : List D) (lo hi : Option Int) : (cutD l lo hi).length ≤ l.length := by
  unfold cutD
  rw [List.length_take, List.length_drop]
  omega
theorem sIx_at {n d : Nat} {v : Int} (h : 0 ≤ v) : HT.sIx n d (some v) = min v.toNat n := by
  show (if v < 0 then (v + (n : Int)).toNat else min v.toNat n) = _
  rw [if_neg (by omega)]
theorem cut_sum {l : List D} {k : Int} (h0 : 0 ≤ k) (h1 : k < l.length) : (cutD l none (some k)).length + (cutD l (some k) (some (k + 2))).length + (cutD l (some (k + 2)) none).length = l.length := by
  unfold cutD
  simp only [List.length_take, List.length_drop, sIx_at h0, sIx_at (show 0 ≤ k + 2 by omega), show HT.sIx l.length 0 none = 0 from rfl, show HT.sIx l.length l.length none = l.length from rfl]
  omega
theorem ix_nat {n : Nat} {k : Int} (h0 : 0 ≤ k) (h1 : k < n) : ixN n k = some k.toNat := by
  unfold ixN
  rw [if_pos h0, if_pos h1]
theorem at_nat {l : List D} {k : Int} (h0 : 0 ≤ k) (h1 : k < l.length) : ∃ d, atI l k = some d ∧ d ∈ l := by
  have hlt : k.toNat < l.length := by omega
  exact ⟨l[k.toNat], by unfold L2.atI; rw [ix_nat h0 h1]; exact List.getElem?_eq_getElem hlt, List.getElem_mem hlt⟩
def finR : PTS := (dFrz 5 (dRet (dIf (dTst (dB1 (fIsi "tuple") (dVar 1))) (dB1 fTup (dOwn 5)) (dVar 5))))
set_option maxHeartbeats 2000000 in
theorem shn__law_bent (C : Cl) (n : Nat) : Shows (spn__law_bent C (n + 1)) 7 (rd__law_bent C n) := by
  intro ds M q e h
  obtain ⟨dr, m, sp, rfl, h⟩ := ar3_of h
  obtain ⟨a, rfl, hm, L, B, N, S, l, rfl, hN, hg, hs, ⟨hL1, hL2, hB, hS, hl⟩, hq⟩ := asDraw_of h
  have hQ : ∀ d, Gd (L + 1) (B + 2) (N + S) d → ∃ M2, MLe M2 M ∧ q d M2 := fun d h => ⟨M, MLe.refl M, hq d h⟩
  have LF : ∀ {w : PWi} {P : PEnds}, P.rt = (fun d M' => ∃ M2, MLe M2 M' ∧ q d M2) → bLeaf C w P [some (.val (.raw (.ref a))), some (.val m), some (.val (.lst l)), none, none, none, none] M := fun {w P} e => by
    refine bLeaf_ok C hm hg.plain hl (fun i ei x hx j ej => ?_) (fun x hx => ?_) (fun x hx => ?_) <;> rw [e]
    · refine hQ _ ?_
      subst ei
      have hi : i.natAbs ≤ B := by simpa [Gd] using hg
      simp only [Gd]
      simp only [List.mem_cons, List.not_mem_nil, or_false] at hx
      rcases hx with rfl | rfl | rfl <;> (cases ej; omega)
    · exact hQ x (Gd.mono (by omega) (by omega) (by omega) (hs x hx))
    · exact hQ x (odd_gd hx (by omega) (by omega) (by omega))
  cases m with
  | tup ml =>
    obtain ⟨N', rfl, hlen, hml0⟩ := hg.tup
    have hml : ∀ x ∈ ml, Gd (L + 1) (B + 2) (N' + S) x := fun x hx => Gd.mono (by omega) (by omega) (by omega) (hml0 x hx)
    rw [show N' + 1 + S = N' + S + 1 from by omega] at hQ
    have FIN : ∀ (l' : List D) (w : PWi) (x3 x4 x6 : Option Sv), l'.length ≤ L + 1 → (∀ x ∈ l', Gd (L + 1) (B + 2) (N' + S) x) → finR w { nx := fun _ M' => ∃ M2, MLe M2 M' ∧ q .non M2, rt := fun d M' => ∃ M2, MLe M2 M' ∧ q d M2 } [some (.val (.raw (.ref a))), some (.val (.tup ml)), some (.val (.lst l)), x3, x4, some (.own l'), x6] M :=
      fun l' _ _ _ _ h1 h2 => hQ _ (gd_con h1 h2).1
    have REC : ∀ (d : D), d ∈ ml → ∀ {k : PQ} {e' : PX}, (∀ y, Gd (L + 1) (B + 2) (N' + S) y → k y M) → spn__law_bent C n [.raw (.ref a), d, .lst l] M k e' := fun d hd k e' hk => by
      obtain ⟨n', rfl⟩ : ∃ n', n = n' + 1 := ⟨n - 1, by omega⟩
      exact ⟨hm, L, B, N', S, l, rfl, by omega, hml0 d hd, hs, ⟨hL1, hL2, hB, hS, hl⟩, hk⟩
    have one : (1 : Nat) ≤ 1000000 := by decide
    refine ⟨rfl, ?_⟩
    show if decide ((ml.length : Int) = 0) = true then _ else _
    by_cases hz : (ml.length : Int) = 0
    · exact itT (decide_eq_true hz) (LF rfl)
    refine itF (decide_eq_false hz) ⟨hm, ⟨by decide, by decide⟩, fun k h0 h1 => ⟨rfl, ?_⟩⟩
    show if decide (k = 0) = true then _ else _
    by_cases hk : k = 0
    · exact itT (decide_eq_true hk) (LF rfl)
    refine itF (decide_eq_false hk) ?_
    refine ⟨hm, ⟨by omega, len_log (by omega)⟩, fun at_ a0 a1 => ⟨hm, ⟨by decide, by decide⟩, fun way w0 w1 => ?_⟩⟩
    obtain ⟨d, hd, hdm⟩ := at_nat a0 a1
    have hix := ix_nat a0 a1
    refine ⟨rfl, ?_⟩
    show if decide (way = 0) = true then _ else _
    by_cases y0 : way = 0
    · refine itT (decide_eq_true y0) ⟨trivial, show ml.length < 1000000 by omega, ml.eraseIdx at_.toNat, ?_, ?_⟩
      · show (ixN ml.length at_).map _ = _
        rw [hix]; rfl
      · refine FIN _ (fun _ _ _ _ => True) none none none ?_ (fun x hx => hml x (List.mem_of_mem_eraseIdx hx))
        have := List.length_eraseIdx_le ml at_.toNat
        omega
    refine itF (decide_eq_false y0) ⟨rfl, ?_⟩
    show if decide (way = 1) = true then _ else _
    by_cases y1 : way = 1
    · refine itT (decide_eq_true y1) ⟨trivial, d, hd, show ml.length < 1000000 by omega, ml.take at_.toNat ++ [d] ++ ml.drop at_.toNat, if_pos ⟨a0, by omega⟩, ?_⟩
      refine FIN _ (fun _ _ _ _ => True) none none none ?_ (fun x hx => ?_)
      · simp only [List.length_append, List.length_take, List.length_drop, List.length_singleton]; omega
      · simp only [List.mem_append, List.mem_singleton] at hx
        rcases hx with (hx | rfl) | hx
        · exact hml x (List.mem_of_mem_take hx)
        · exact hml x hdm
        · exact hml x (List.mem_of_mem_drop hx)
    refine itF (decide_eq_false y1) ⟨rfl, ?_⟩
    show if decide (way = 2) = true then _ else _
    by_cases y2 : way = 2
    · have c1 := cut_len ml (some at_) (some (at_ + 2))
      have c2 := cut_len ml none (some at_)
      have c3 := cut_len ml (some (at_ + 2)) none
      refine itT (decide_eq_true y2) ⟨?_, ?_, ?_⟩
      · show (cutD ml none (some at_)).length + (cutD ml (some at_) (some (at_ + 2))).reverse.length ≤ 1000000
        rw [List.length_reverse]; omega
      · show (cutD ml none (some at_) ++ (cutD ml (some at_) (some (at_ + 2))).reverse).length + (cutD ml (some (at_ + 2)) none).length ≤ 1000000
        rw [List.length_append, List.length_reverse]; omega
      · refine FIN (cutD ml none (some at_) ++ (cutD ml (some at_) (some (at_ + 2))).reverse ++ cutD ml (some (at_ + 2)) none) (fun _ _ _ _ => True) none none none ?_ (fun x hx => ?_)
        · have := cut_sum a0 a1; rw [List.length_append, List.length_append, List.length_reverse]; omega
        · simp only [List.mem_append, List.mem_reverse] at hx
          rcases hx with (hx | hx) | hx <;> exact hml x (cut_mem hx)
    refine itF (decide_eq_false y2) ⟨rfl, ?_⟩
    show if decide (way = 3) = true then _ else _
    by_cases y3 : way = 3
    · refine itT (decide_eq_true y3) ⟨trivial, hm, fun x hx => ⟨one, ?_, hm, ⟨?_, ?_⟩, fun y hy => ?_⟩⟩
      · show l.length + 1 ≤ 1000000; omega
      · rw [List.length_append]; show 0 < l.length + 1; omega
      · rw [List.length_append]; show l.length + 1 ≤ 100000; omega
      · have hgy : Gd (L + 1) (B + 2) (N' + S) y := by
          rcases List.mem_append.mp hy with h | h
          · exact Gd.mono (by omega) (by omega) (by omega) (hs y h)
          · rw [List.mem_singleton.mp h]; exact odd_gd hx (by omega) (by omega) (by omega)
        refine ⟨show ml.length < 1000000 by omega, ml.take at_.toNat ++ [y] ++ ml.drop at_.toNat, if_pos ⟨a0, by omega⟩, ?_⟩
        refine FIN _ (fun _ _ _ _ => True) none none none ?_ (fun x hx => ?_)
        · simp only [List.length_append, List.length_take, List.length_drop, List.length_singleton]; omega
        · simp only [List.mem_append, List.mem_singleton] at hx
          rcases hx with (hx | rfl) | hx
          · exact hml x (List.mem_of_mem_take hx)
          · exact hgy
          · exact hml x (List.mem_of_mem_drop hx)
    refine itF (decide_eq_false y3) ⟨rfl, ?_⟩
    show if decide (way = 4) = true then _ else _
    by_cases y4 : way = 4
    · refine itT (decide_eq_true y4) ⟨hm, ⟨by decide, by decide⟩, fun k2 k0 k1 => ⟨rfl, ?_⟩⟩
      show if decide (k2 = 0) = true then _ else _
      by_cases y5 : k2 = 0
      · refine itT (decide_eq_true y5) ?_
        first | exact hQ _ (gd_con (by omega) fun x hx => hml x hx).1 | exact hQ _ (gd_con (by omega) fun x hx => hml x hx).2
      · refine itF (decide_eq_false y5) ⟨trivial, d, hd, ?_⟩
        refine REC d hdm fun y hy => ?_
        refine ⟨show ml.length < 1000000 by omega, ml.set at_.toNat y, ?_, ?_⟩
        · show (ixN ml.length at_).map _ = _
          rw [hix]; rfl
        · refine FIN _ (fun _ _ _ _ => True) none none none (by rw [List.length_set]; omega) (fun x hx => ?_)
          rcases List.mem_or_eq_of_mem_set hx with h | h
          · exact hml x h
          · rw [h]; exact hy
    · refine itF (decide_eq_false y4) ⟨trivial, d, hd, ?_⟩
      refine REC d hdm fun y hy => ?_
      refine ⟨show ml.length < 1000000 by omega, ml.set at_.toNat y, ?_, ?_⟩
      · show (ixN ml.length at_).map _ = _
        rw [hix]; rfl
      · refine FIN _ (fun _ _ _ _ => True) none none none (by rw [List.length_set]; omega) (fun x hx => ?_)
        rcases List.mem_or_eq_of_mem_set hx with h | h
        · exact hml x h
        · rw [h]; exact hy
  | lst ml =>
    obtain ⟨N', rfl, hlen, hml0⟩ := hg.lst
    have hml : ∀ x ∈ ml, Gd (L + 1) (B + 2) (N' + S) x := fun x hx => Gd.mono (by omega) (by omega) (by omega) (hml0 x hx)
    rw [show N' + 1 + S = N' + S + 1 from by omega] at hQ
    have FIN : ∀ (l' : List D) (w : PWi) (x3 x4 x6 : Option Sv), l'.length ≤ L + 1 → (∀ x ∈ l', Gd (L + 1) (B + 2) (N' + S) x) → finR w { nx := fun _ M' => ∃ M2, MLe M2 M' ∧ q .non M2, rt := fun d M' => ∃ M2, MLe M2 M' ∧ q d M2 } [some (.val (.raw (.ref a))), some (.val (.lst ml)), some (.val (.lst l)), x3, x4, some (.own l'), x6] M :=
      fun l' _ _ _ _ h1 h2 => hQ _ (gd_con h1 h2).2
    have REC : ∀ (d : D), d ∈ ml → ∀ {k : PQ} {e' : PX}, (∀ y, Gd (L + 1) (B + 2) (N' + S) y → k y M) → spn__law_bent C n [.raw (.ref a), d, .lst l] M k e' := fun d hd k e' hk => by
      obtain ⟨n', rfl⟩ : ∃ n', n = n' + 1 := ⟨n - 1, by omega⟩
      exact ⟨hm, L, B, N', S, l, rfl, by omega, hml0 d hd, hs, ⟨hL1, hL2, hB, hS, hl⟩, hk⟩
    have one : (1 : Nat) ≤ 1000000 := by decide
    refine ⟨rfl, ?_⟩
    show if decide ((ml.length : Int) = 0) = true then _ else _
    by_cases hz : (ml.length : Int) = 0
    · exact itT (decide_eq_true hz) (LF rfl)
    refine itF (decide_eq_false hz) ⟨hm, ⟨by decide, by decide⟩, fun k h0 h1 => ⟨rfl, ?_⟩⟩
    show if decide (k = 0) = true then _ else _
    by_cases hk : k = 0
    · exact itT (decide_eq_true hk) (LF rfl)
    refine itF (decide_eq_false hk) ?_
    refine ⟨hm, ⟨by omega, len_log (by omega)⟩, fun at_ a0 a1 => ⟨hm, ⟨by decide, by decide⟩, fun way w0 w1 => ?_⟩⟩
    obtain ⟨d, hd, hdm⟩ := at_nat a0 a1
    have hix := ix_nat a0 a1
    refine ⟨rfl, ?_⟩
    show if decide (way = 0) = true then _ else _
    by_cases y0 : way = 0
    · refine itT (decide_eq_true y0) ⟨trivial, show ml.length < 1000000 by omega, ml.eraseIdx at_.toNat, ?_, ?_⟩
      · show (ixN ml.length at_).map _ = _
        rw [hix]; rfl
      · refine FIN _ (fun _ _ _ _ => True) none none none ?_ (fun x hx => hml x (List.mem_of_mem_eraseIdx hx))
        have := List.length_eraseIdx_le ml at_.toNat
        omega
    refine itF (decide_eq_false y0) ⟨rfl, ?_⟩
    show if decide (way = 1) = true then _ else _
    by_cases y1 : way = 1
    · refine itT (decide_eq_true y1) ⟨trivial, d, hd, show ml.length < 1000000 by omega, ml.take at_.toNat ++ [d] ++ ml.drop at_.toNat, if_pos ⟨a0, by omega⟩, ?_⟩
      refine FIN _ (fun _ _ _ _ => True) none none none ?_ (fun x hx => ?_)
      · simp only [List.length_append, List.length_take, List.length_drop, List.length_singleton]; omega
      · simp only [List.mem_append, List.mem_singleton] at hx
        rcases hx with (hx | rfl) | hx
        · exact hml x (List.mem_of_mem_take hx)
        · exact hml x hdm
        · exact hml x (List.mem_of_mem_drop hx)
    refine itF (decide_eq_false y1) ⟨rfl, ?_⟩
    show if decide (way = 2) = true then _ else _
    by_cases y2 : way = 2
    · have c1 := cut_len ml (some at_) (some (at_ + 2))
      have c2 := cut_len ml none (some at_)
      have c3 := cut_len ml (some (at_ + 2)) none
      refine itT (decide_eq_true y2) ⟨?_, ?_, ?_⟩
      · show (cutD ml none (some at_)).length + (cutD ml (some at_) (some (at_ + 2))).reverse.length ≤ 1000000
        rw [List.length_reverse]; omega
      · show (cutD ml none (some at_) ++ (cutD ml (some at_) (some (at_ + 2))).reverse).length + (cutD ml (some (at_ + 2)) none).length ≤ 1000000
        rw [List.length_append, List.length_reverse]; omega
      · refine FIN (cutD ml none (some at_) ++ (cutD ml (some at_) (some (at_ + 2))).reverse ++ cutD ml (some (at_ + 2)) none) (fun _ _ _ _ => True) none none none ?_ (fun x hx => ?_)
        · have := cut_sum a0 a1; rw [List.length_append, List.length_append, List.length_reverse]; omega
        · simp only [List.mem_append, List.mem_reverse] at hx
          rcases hx with (hx | hx) | hx <;> exact hml x (cut_mem hx)
    refine itF (decide_eq_false y2) ⟨rfl, ?_⟩
    show if decide (way = 3) = true then _ else _
    by_cases y3 : way = 3
    · refine itT (decide_eq_true y3) ⟨trivial, hm, fun x hx => ⟨one, ?_, hm, ⟨?_, ?_⟩, fun y hy => ?_⟩⟩
      · show l.length + 1 ≤ 1000000; omega
      · rw [List.length_append]; show 0 < l.length + 1; omega
      · rw [List.length_append]; show l.length + 1 ≤ 100000; omega
      · have hgy : Gd (L + 1) (B + 2) (N' + S) y := by
          rcases List.mem_append.mp hy with h | h
          · exact Gd.mono (by omega) (by omega) (by omega) (hs y h)
          · rw [List.mem_singleton.mp h]; exact odd_gd hx (by omega) (by omega) (by omega)
        refine ⟨show ml.length < 1000000 by omega, ml.take at_.toNat ++ [y] ++ ml.drop at_.toNat, if_pos ⟨a0, by omega⟩, ?_⟩
        refine FIN _ (fun _ _ _ _ => True) none none none ?_ (fun x hx => ?_)
        · simp only [List.length_append, List.length_take, List.length_drop, List.length_singleton]; omega
        · simp only [List.mem_append, List.mem_singleton] at hx
          rcases hx with (hx | rfl) | hx
          · exact hml x (List.mem_of_mem_take hx)
          · exact hgy
          · exact hml x (List.mem_of_mem_drop hx)
    refine itF (decide_eq_false y3) ⟨rfl, ?_⟩
    show if decide (way = 4) = true then _ else _
    by_cases y4 : way = 4
    · refine itT (decide_eq_true y4) ⟨hm, ⟨by decide, by decide⟩, fun k2 k0 k1 => ⟨rfl, ?_⟩⟩
      show if decide (k2 = 0) = true then _ else _
      by_cases y5 : k2 = 0
      · refine itT (decide_eq_true y5) ?_
        first | exact hQ _ (gd_con (by omega) fun x hx => hml x hx).1 | exact hQ _ (gd_con (by omega) fun x hx => hml x hx).2
      · refine itF (decide_eq_false y5) ⟨trivial, d, hd, ?_⟩
        refine REC d hdm fun y hy => ?_
        refine ⟨show ml.length < 1000000 by omega, ml.set at_.toNat y, ?_, ?_⟩
        · show (ixN ml.length at_).map _ = _
          rw [hix]; rfl
        · refine FIN _ (fun _ _ _ _ => True) none none none (by rw [List.length_set]; omega) (fun x hx => ?_)
          rcases List.mem_or_eq_of_mem_set hx with h | h
          · exact hml x h
          · rw [h]; exact hy
    · refine itF (decide_eq_false y4) ⟨trivial, d, hd, ?_⟩
      refine REC d hdm fun y hy => ?_
      refine ⟨show ml.length < 1000000 by omega, ml.set at_.toNat y, ?_, ?_⟩
      · show (ixN ml.length at_).map _ = _
        rw [hix]; rfl
      · refine FIN _ (fun _ _ _ _ => True) none none none (by rw [List.length_set]; omega) (fun x hx => ?_)
        rcases List.mem_or_eq_of_mem_set hx with h | h
        · exact hml x h
        · rw [h]; exact hy
  | _ => first | (exfalso; revert hg; simp [Gd]; done) | exact LF rfl
theorem sp_bent (C : Cl) {M : Mm} {q : PQ} {e : PX} {a : Addr} {m : D} {l : List D} {L B N S : Nat} (hm : M a = some .draw) (hN : N ≤ 7) (hg : Gd L B N m) (hs : ∀ x ∈ l, Gd L B S x) (h : 1 ≤ L ∧ L < 100000 ∧ 10 ^ 29 ≤ B ∧ 1 ≤ S ∧ l.length < 100000)
    (hq : ∀ d, Gd (L + 1) (B + 2) (N + S) d → q d M) : sp__law_bent C [.raw (.ref a), m, .lst l] M q e :=
  show spn__law_bent C (7 + 1) _ _ _ _ from ⟨hm, L, B, N, S, l, rfl, hN, hg, hs, h, hq⟩
end Px

set_option Elab.async false
set_option linter.all false
set_option maxRecDepth 100000
namespace Px
open PySem PySem.Spec PyProof.Rows L2
/-! # how the laws tell an error -/
/-- an error, as the laws tell it -/
def tellR (C : Cl) (cls : Value) (fs : List (Str × D)) (d : D) : Prop :=
  (cls = .ref C.BadHalves ∧ ∃ v, fs = [(("at" : Str), v)] ∧ d = .tup [.str "halves", v]) ∨ (cls = .ref C.BadLook ∧ ∃ v, fs = [(("at" : Str), v)] ∧ d = .tup [.str "look", v]) ∨ (cls = .ref C.BadGroups ∧ ∃ v, fs = [(("at" : Str), v)] ∧ d = .tup [.str "groups", v]) ∨
  (cls = .ref C.Clash ∧ d = .tup [.str "clash", .non]) ∨ (cls = .ref C.TooGreat ∧ ∃ v, fs = [(("most" : Str), v)] ∧ d = .tup [.str "great", v]) ∨
  (cls = .ref C.BadSpeed ∧ d = .tup [.str "speed", .non]) ∨ (cls = .ref C.BadHalf ∧ d = .tup [.str "half", .non]) ∨ (cls = .ref C.BadNumber ∧ d = .tup [.str "number", .non]) ∨ (cls = .ref C.BadStretch ∧ d = .tup [.str "stretch", .non])
def tt__law_refused (C : Cl) : PC → PC := fun c e M q => c (fun cls fs M' => ∃ d, tellR C cls fs d ∧ q d M') M fun _ M' => q .non M'
def rd__law_refused (C : Cl) (A : PTE) : PTS := (dSeq (dSet 1 (dC .non))
    (dSeq (dTry (dDrop A) (⟨inTb [(.ref C.BadGroups, true), (.ref C.BadHalf, true), (.ref C.BadHalves, true), (.ref C.BadLook, true), (.ref C.BadNumber, true), (.ref C.BadSpeed, true), (.ref C.BadStretch, true), (.ref C.Clash, true), (.ref C.TooGreat, true)], some 2, (dSet 1 (dVar 2))⟩ :: []))
    (dSeq (dIfS (dTst (dOp fIs (dVar 1) (dC .non))) (dRet (dC .non)) dNext)
    (dSeq (dIfS (dTst (dB1 (fIsE (inTe [(C.BadGroups, false), (C.BadHalf, false), (C.BadHalves, true), (C.BadLook, false), (C.BadNumber, false), (C.BadSpeed, false), (C.BadStretch, false), (C.Clash, false), (C.TooGreat, false)])) (dVar 1))) (dRet (dTup (dCons (dC (.str "halves")) (dCons (dXf (inTf [C.BadGroups, C.BadHalves, C.BadLook]) "at" (dVar 1)) dNil)))) dNext)
    (dSeq (dIfS (dTst (dB1 (fIsE (inTe [(C.BadGroups, false), (C.BadHalf, false), (C.BadHalves, false), (C.BadLook, true), (C.BadNumber, false), (C.BadSpeed, false), (C.BadStretch, false), (C.Clash, false), (C.TooGreat, false)])) (dVar 1))) (dRet (dTup (dCons (dC (.str "look")) (dCons (dXf (inTf [C.BadGroups, C.BadHalves, C.BadLook]) "at" (dVar 1)) dNil)))) dNext)
    (dSeq (dIfS (dTst (dB1 (fIsE (inTe [(C.BadGroups, true), (C.BadHalf, false), (C.BadHalves, false), (C.BadLook, false), (C.BadNumber, false), (C.BadSpeed, false), (C.BadStretch, false), (C.Clash, false), (C.TooGreat, false)])) (dVar 1))) (dRet (dTup (dCons (dC (.str "groups")) (dCons (dXf (inTf [C.BadGroups, C.BadHalves, C.BadLook]) "at" (dVar 1)) dNil)))) dNext)
    (dSeq (dIfS (dTst (dB1 (fIsE (inTe [(C.BadGroups, false), (C.BadHalf, false), (C.BadHalves, false), (C.BadLook, false), (C.BadNumber, false), (C.BadSpeed, false), (C.BadStretch, false), (C.Clash, true), (C.TooGreat, false)])) (dVar 1))) (dRet (dTup (dCons (dC (.str "clash")) (dCons (dC .non) dNil)))) dNext)
    (dSeq (dIfS (dTst (dB1 (fIsE (inTe [(C.BadGroups, false), (C.BadHalf, false), (C.BadHalves, false), (C.BadLook, false), (C.BadNumber, false), (C.BadSpeed, false), (C.BadStretch, false), (C.Clash, false), (C.TooGreat, true)])) (dVar 1))) (dRet (dTup (dCons (dC (.str "great")) (dCons (dXf (inTf [C.TooGreat]) "most" (dVar 1)) dNil)))) dNext)
    (dSeq (dSetO 3 (dLst (dCons (dB1 (fIsE (inTe [(C.BadGroups, false), (C.BadHalf, false), (C.BadHalves, false), (C.BadLook, false), (C.BadNumber, false), (C.BadSpeed, true), (C.BadStretch, false), (C.Clash, false), (C.TooGreat, false)])) (dVar 1)) (dCons (dB1 (fIsE (inTe [(C.BadGroups, false), (C.BadHalf, true), (C.BadHalves, false), (C.BadLook, false), (C.BadNumber, false), (C.BadSpeed, false), (C.BadStretch, false), (C.Clash, false), (C.TooGreat, false)])) (dVar 1)) (dCons (dB1 (fIsE (inTe [(C.BadGroups, false), (C.BadHalf, false), (C.BadHalves, false), (C.BadLook, false), (C.BadNumber, true), (C.BadSpeed, false), (C.BadStretch, false), (C.Clash, false), (C.TooGreat, false)])) (dVar 1)) dNil)))))
    (dSeq (dApp 3 (dB1 (fIsE (inTe [(C.BadGroups, false), (C.BadHalf, false), (C.BadHalves, false), (C.BadLook, false), (C.BadNumber, false), (C.BadSpeed, false), (C.BadStretch, true), (C.Clash, false), (C.TooGreat, false)])) (dVar 1)))
    (dRet (dTup (dCons (dIf (dTst (dOp fEq (dMtL fCntB (dOwn 3) (dC (.bl true))) (dC (.int 1)))) (dOp fIx (dL (dLst (dCons (dC (.str "speed")) (dCons (dC (.str "half")) (dCons (dC (.str "number")) (dCons (dC (.str "stretch")) dNil)))))) (dMtL fIdxB (dOwn 3) (dC (.bl true)))) (dC (.str "other"))) (dCons (dC .non) dNil))))))))))))))
theorem sh__law_refused (C : Cl) : ShowsC (tt__law_refused C) 4 (rd__law_refused C) := by
  intro c cl M q e h
  have two : (2 : Nat) ≤ 1000000 := by decide
  have n3 : (3 : Nat) ≤ 1000000 := by decide
  have n4 : (4 : Nat) ≤ 1000000 := by decide
  have n3' : (3 : Nat) < 1000000 := by decide
  have k4 : (4 : Nat) ≤ 1000 := by decide
  refine ⟨rfl, _, _, h, fun cls fs M' hE => ?_, fun d M' hq => ⟨rfl, M', MLe.refl M', hq⟩⟩
  obtain ⟨d, ht, hq⟩ := hE
  have fin : ∃ M2, MLe M2 M' ∧ q d M2 := ⟨M', MLe.refl M', hq⟩
  have T : ∀ {l : List (Addr × Bool)} {A : Addr} {b : Bool}, (A, b) ∈ l → inTe l A b := fun h => h
  rcases ht with ⟨rfl, v, rfl, rfl⟩ | ⟨rfl, v, rfl, rfl⟩ | ⟨rfl, v, rfl, rfl⟩ | ⟨rfl, rfl⟩ | ⟨rfl, v, rfl, rfl⟩ | ⟨rfl, rfl⟩ | ⟨rfl, rfl⟩ | ⟨rfl, rfl⟩ | ⟨rfl, rfl⟩
  · refine ⟨true, by simp [inTb], fun _ a dd => ?_, fun z => nomatch z⟩
    refine ⟨rfl, true, by simp [inTe], ?_⟩
    exact ⟨by simp [inTf], v, rfl, two, fin⟩
  · refine ⟨true, by simp [inTb], fun _ a dd => ?_, fun z => nomatch z⟩
    refine ⟨rfl, false, by simp [inTe], true, by simp [inTe], ?_⟩
    exact ⟨by simp [inTf], v, rfl, two, fin⟩
  · refine ⟨true, by simp [inTb], fun _ a dd => ?_, fun z => nomatch z⟩
    refine ⟨rfl, false, by simp [inTe], false, by simp [inTe], true, by simp [inTe], ?_⟩
    exact ⟨by simp [inTf], v, rfl, two, fin⟩
  · refine ⟨true, by simp [inTb], fun _ a dd => ?_, fun z => nomatch z⟩
    refine ⟨rfl, false, by simp [inTe], false, by simp [inTe], false, by simp [inTe], true, by simp [inTe], ?_⟩
    exact ⟨two, fin⟩
  · refine ⟨true, by simp [inTb], fun _ a dd => ?_, fun z => nomatch z⟩
    refine ⟨rfl, false, by simp [inTe], false, by simp [inTe], false, by simp [inTe], false, by simp [inTe], true, by simp [inTe], ?_⟩
    exact ⟨by simp [inTf], v, rfl, two, fin⟩
  · refine ⟨true, by simp [inTb], fun _ a dd => ?_, fun z => nomatch z⟩
    refine ⟨rfl, false, by simp [inTe], false, by simp [inTe], false, by simp [inTe], false, by simp [inTe], false, by simp [inTe], ?_⟩
    refine ⟨true, by simp [inTe], false, by simp [inTe], false, by simp [inTe], n3, trivial, false, by simp [inTe], n3', ?_⟩
    exact ⟨⟨_, rfl⟩, k4, _, rfl, rfl, n4, ⟨_, rfl⟩, k4, _, rfl, by simp, _, rfl, two, fin⟩
  · refine ⟨true, by simp [inTb], fun _ a dd => ?_, fun z => nomatch z⟩
    refine ⟨rfl, false, by simp [inTe], false, by simp [inTe], false, by simp [inTe], false, by simp [inTe], false, by simp [inTe], ?_⟩
    refine ⟨false, by simp [inTe], true, by simp [inTe], false, by simp [inTe], n3, trivial, false, by simp [inTe], n3', ?_⟩
    exact ⟨⟨_, rfl⟩, k4, _, rfl, rfl, n4, ⟨_, rfl⟩, k4, _, rfl, by simp, _, rfl, two, fin⟩
  · refine ⟨true, by simp [inTb], fun _ a dd => ?_, fun z => nomatch z⟩
    refine ⟨rfl, false, by simp [inTe], false, by simp [inTe], false, by simp [inTe], false, by simp [inTe], false, by simp [inTe], ?_⟩
    refine ⟨false, by simp [inTe], false, by simp [inTe], true, by simp [inTe], n3, trivial, false, by simp [inTe], n3', ?_⟩
    exact ⟨⟨_, rfl⟩, k4, _, rfl, rfl, n4, ⟨_, rfl⟩, k4, _, rfl, by simp, _, rfl, two, fin⟩
  · refine ⟨true, by simp [inTb], fun _ a dd => ?_, fun z => nomatch z⟩
    refine ⟨rfl, false, by simp [inTe], false, by simp [inTe], false, by simp [inTe], false, by simp [inTe], false, by simp [inTe], ?_⟩
    refine ⟨false, by simp [inTe], false, by simp [inTe], false, by simp [inTe], n3, trivial, true, by simp [inTe], n3', ?_⟩
    exact ⟨⟨_, rfl⟩, k4, _, rfl, rfl, n4, ⟨_, rfl⟩, k4, _, rfl, by simp, _, rfl, two, fin⟩
end Px

set_option Elab.async false
set_option linter.all false
set_option maxRecDepth 100000
namespace Px
open PySem PySem.Spec PyProof.Rows PySem.W PySem.Calls
/-! # an own error with one attribute: `super().__init__('..'); self.f = x` -/
section
variable {prog : Program} {w : World} {A : Around} {E : Value → Shared → Prop} {h : Heap} {g : Array GenState} {d : Drawn} {t : Nat} {os : OsState}
variable {nm q : Str} {C N : Addr} {bs bm : List Value} {hdct : Bool} {sn : List Str} {sub : List Value} {ab : Bool} {col : Option Bool} {dd : Option Addr} {k0 k1 k2 k3 k5 : Option Value}
theorem call_vw {u e t0 : Addr} {rest : List Value} {Q : Value → Shared → Prop}
    (hC : h.get? C = some (excClassObj nm q C N bs bm hdct sn sub ab col dd k0 k1 k2 k3 k5 "ValueError.__new__")) (he : h.get? e = some (HandSPX.excO C t0)) (hu : h.get? u = some (kxs_mw "ValueError.__init__" e)) (hrest : rest.length ≤ sizeLine)
    (hq : ∀ h' t1, (∀ b o, b ≠ e → h.get? b = some o → h'.get? b = some o) → h'.get? e = some (HandSPX.excO C t1) → Q .none ⟨h', g, d, t, os⟩) :
    wpAny (model prog w) A (call (.ref u) rest) Q E ⟨h, g, d, t, os⟩ := by
  refine wpAny_call (codeAny_of_tree ?_)
  show wpAny _ A.in1 (callAny (.ref u) ⟨rest, []⟩) _ _ _
  simp only [callAny]
  refine wpAny_bind (wpAny_load hu ?_)
  simp only [kxs_mw, show (Value.type "method-wrapper" == Value.type "method" || Value.type "method-wrapper" == Value.type "builtin_function_or_method" || Value.type "method-wrapper" == Value.type "method-wrapper") = true by decide, if_true]
  refine KFB.if_so (by decide) ?_
  refine wpAny_bind (check_bound_init F.excBase_ValueError.toExcCallFacts hC he rfl ?_)
  refine wpAny_bind (wpAny_pure (wpAny_pure ?_))
  refine ⟨plainId_quiet F.excBase_ValueError.init.plain _, codeAny_builtin F.excBase_ValueError.initEntry ?_⟩
  exact exc_init_tree (cls := .ref C) (t0 := t0) (dv := none) (c2 := .none) (c3 := .none) (b4 := .bool false) he hrest fun h' k e' _ => hq h' _ k e'
end
/-- what the written part says of such a class: its __init__ at fI, with the parameter x, storing f -/
structure InitA (P : Program) (K : Frag) (C fI : Addr) (x f : Str) : Prop where
  sup : ks_superIn K C C "__init__" = some (some (.builtin "ValueError.__init__"))
  hB : subIn K (.ref C) (.type "ValueError") = some true
  mro : mroIn K C (.ref C) = some true
  opq : nsIn K cStatics "thirdparty.any" = some none
  no : findIn K (.ref C) f = some none
  top : (P.main.scope.names.lookup ("super" : Str)).isSome = false
  ex : ∃ (oc ct dV kV doc pm : Value) (od an : Option Addr) (cda cc : Addr) (osl : Array (Option Value)) (qual : Str) (params : Arguments) (scope : Scope) (msg : Str) (j : Nat) (p0 p1 p2 p3 p4 p5 p6 p7 p8 p9 : Pos) (vs : Array Value) (file : Str) (tf : Tok) (ccl cl : Value) (cdd cld : Option Addr) (ccs csl : Array (Option Value)) (ar : Arg),
    K.lookup fI = some ⟨oc, od, .func (ksFn "__init__" qual params [.Expr (.Call (.Attribute (.Call (.Name "super" p0) [] [] p1) "__init__" p2) [.Constant (.str msg) j p3] [] p4) p5, .Assign [.Attribute (.Name "self" p6) f p7] (.Name x p8) p9] scope dV kV doc pm an (.ref cda) ct cc), osl⟩ ∧
    codeIn K (.ref cda) qual = true ∧ K.lookup cda = some ⟨ccl, cdd, .fields vs, ccs⟩ ∧ vs[2]? = some (.str file tf) ∧ ((P.main.file : Str) == file) = true ∧ K.lookup cc = some ⟨cl, cld, .cell (some (.ref C)), csl⟩ ∧
    (params.posonlyargs ++ params.args).head? = some ar ∧ ar.arg = ("self" : Str) ∧ (∀ (s : Shared) (e u : Value), BindsTo s (ksFn "__init__" qual params [.Expr (.Call (.Attribute (.Call (.Name "super" p0) [] [] p1) "__init__" p2) [.Constant (.str msg) j p3] [] p4) p5, .Assign [.Attribute (.Name "self" p6) f p7] (.Name x p8) p9] scope dV kV doc pm an (.ref cda) ct cc) ⟨[e, u], []⟩ [("self", e), (x, u)]) ∧
    scope.names.lookup ("super" : Str) = some .globalImplicit ∧ scope.names.lookup ("__class__" : Str) = some .free ∧ scope.names.lookup ("self" : Str) = some .local ∧ scope.names.lookup x = some .local ∧ (∀ y ∈ scope.names, y.2 ≠ .cell) ∧
    scope.isCoroutine = false ∧ scope.isGenerator = false ∧ scope.kind = .function ∧ x ≠ ("self" : Str) ∧ (x == ("__debug__" : Str)) = false ∧
    (∀ L, interactive (ksEnv qual scope L fI (.ref cda) cc) = false) ∧ (∀ L, swapsWith (.Call (.Attribute (.Call (.Name "super" p0) [] [] p1) "__init__" p2) [.Constant (.str msg) j p3] [] p4) none p5.line (ksEnv qual scope L fI (.ref cda) cc) = pure false) ∧
    (∀ L, swapsWith (.Name x p8) (some (.Attribute (.Name "self" p6) f p7)) p9.line (ksEnv qual scope L fI (.ref cda) cc) = pure false) ∧
    ∃ pl : Sem Bool, ∀ L, eval (.Call (.Attribute (.Call (.Name "super" p0) [] [] p1) "__init__" p2) [.Constant (.str msg) j p3] [] p4) (ksEnv qual scope L fI (.ref cda) cc) = (do
      let ov ← attributeBase (.Call (.Name "super" p0) [] [] p1) "__init__" (ksEnv qual scope L fI (.ref cda) cc) (eval (.Call (.Name "super" p0) [] [] p1) (ksEnv qual scope L fI (.ref cda) cc))
      standAt p2.atName
      let (f, first) ← holding [ov] (getMethod ov "__init__" pl)
      callWith p4 f first (backTo p4 (starEach [.Constant (.str msg) j p3] (ksEnv qual scope L fI (.ref cda) cc))) [])
section
variable {prog : Program} {w : World} {A : Around} {R : Result → Shared → Prop} {K : Frag} {C fI e t0 : Addr} {u : Value} {x f : Str} {mg mb : Str → Option Value} {s : Shared}
theorem init_attr (T : L2.OexC K C) (Z : InitA prog K C fI x f) (X : K.In s.heap) (hlim : s.heap.NoLimit) (hroom : A.depth < recursionLimit) (hg : s.heap.Ns mainGlobals mg) (hgs : mg "super" = none) (hb : s.heap.Ns builtinsNs mb) (hbs : mb "super" = some (.type "super"))
    (he : s.heap.get? e = some (HandSPX.excO C t0)) (hKe : K.lookup e = none)
    (hq : ∀ h' tk' dx t1, (∀ b o, b ≠ e → s.heap.get? b = some o → h'.get? b = some o) → s.heap.objs.size ≤ dx → h'.get? e = some { cls := .ref C, dict := some dx, data := .fields #[.ref t1, .none, .none, .none, .bool false, .none] } →
      h'.Ns1 dx (fun y => if y = f then some u else none) → R (.ok (.ret .none)) { s with heap := h', toks := tk' }) :
    codeAny (model prog w) A (.call (.ref fI) ⟨[.ref e, u], []⟩) R s := by
  obtain ⟨oc, ct, dV, kV, doc, pm, od, an, cda, cc, osl, qual, params, scope, msg, j, p0, p1, p2, p3, p4, p5, p6, p7, p8, p9, vs, file, tf, ccl, cl, cdd, cld, ccs, csl, ar, hf, hcd, hcode, hvs, hfile, hcell, har, harn, hbind, s1, s2, s3, s4, s5, s6, s7, s8, s9, s10, s11, s12, s13, pl, s14⟩ := Z.ex
  obtain ⟨nm, qn, N, bs, bm, sn, sub, ab, col, dd, k0, k1, k2, k3, k5, hC, hbm⟩ := T.cls
  refine ks_codeAny_call_defAt (binds := [("self", .ref e), (x, u)]) hroom (X _ _ hf) rfl hlim (codeRec_of X hcd) rfl (hbind s _ _) s5 (fun y hy => ?_) (fun h₀ hns hk => ?_) s6 s7 s8
  · rcases List.mem_cons.mp hy with rfl | hy
    · exact s3
    · rw [List.mem_singleton.mp hy]; exact s4
  have X0 : K.In h₀ := X.keeps hk
  obtain ⟨hp, g, d, t, os⟩ := s
  have hCp := X0 _ _ hC
  have hep := hk _ _ he
  have hne : e ≠ hp.objs.size := Nat.ne_of_lt (Heap.lt_size he)
  have hself : (fun y => [(("self" : Str), Value.ref e), (x, u)].reverse.lookup y) "self" = some (.ref e) := by
    show (List.lookup ("self" : Str) [(x, u), (("self" : Str), Value.ref e)]) = _
    have : (("self" : Str) == x) = false := by simpa using fun z => s9 z.symm
    simp [List.lookup, this]
  have hx : (fun y => [(("self" : Str), Value.ref e), (x, u)].reverse.lookup y) x = some u := by
    show (List.lookup x [(x, u), (("self" : Str), Value.ref e)]) = _
    simp [List.lookup]
  refine ks_wpAt_execs_cons (ks_wpAt_Expr_any (ks_wpAt_MethodCall (pl := pl) ?_ (s14 _)) (s11 _) (s12 _))
  refine ks_wpAt_super_base s1 s2 (by decide) rfl (X0 _ _ hf) rfl har rfl (X0 _ _ hcode) rfl hvs hfile Z.top ?_
  refine ks_loadName_global s8 s1 (loadGlobal_builtin (hg.keeps hk) hgs (hb.keeps hk) hbs ⟨rfl, ?_⟩)
  refine wpAny_loadName_free s8 s2 rfl ⟨_, X0 _ _ hcell, rfl⟩ ?_
  rw [harn]
  refine wpAny_loadName_local s8 s3 hns hself ?_
  refine ks_wpAny_isType_cls hCp rfl ⟨rfl, ?_⟩
  refine ks_wpAny_call_super hCp rfl hep rfl (fun c z => by cases z) (looks_mroIn X0 Z.mro) (fun h' ho k => ?_)
  have X1 : K.In h' := X0.keeps k
  have hcl : clsIn K C = some { name := nm, bases := bs, mro := .ref C :: bm, ns := N, qualname := qn, hasDict := true, slotNames := sn, subclasses := sub, abstract := ab, collection := col, hasDel := false } := by unfold clsIn; rw [hC] <;> rfl
  have hsup : alongIn K "__init__" (((Value.ref C :: bm).dropWhile (· != .ref C)).drop 1) = some (some (.builtin "ValueError.__init__")) := by
    have := Z.sup
    unfold ks_superIn at this
    rw [hcl] at this
    exact this
  have I1 : InstAt h' e (HandSPX.excO C t0) C none := ⟨k _ _ hep, rfl, rfl, trivial⟩
  have hCe : e ≠ C := fun z => by rw [z, hC] at hKe; cases hKe
  refine kxs_getMethod kxs_ValueError ho (looks_opaque X1 Z.opq) (l₀ := .ref C :: bm) (fun A Q E s k q => wpAny_bind ((looks_clsIn X1 hcl) A _ E s k (wpAny_pure q))) rfl X1 hsup (I1.type.andThen (looks_subIn X1 Z.hB)) hCe (by decide) ?_
  have k2 : ∀ b o, h'.get? b = some o → (h'.push (kxs_mw "ValueError.__init__" e)).get? b = some o := fun b o q => Heap.get?_push_of_some _ q
  have hu2 : (h'.push (kxs_mw "ValueError.__init__" e)).get? h'.objs.size = some (kxs_mw "ValueError.__init__" e) := Heap.get?_push_at rfl rfl
  refine kxs_callWith (i := "ValueError.__init__") (x := e) rfl (evalArgs_plain (spliced_cons (wpAny_Constant_str (k := j) (pos := p3) (spliced_nil ⟨hu2, ?_⟩))))
  refine call_vw (t0 := t0) (k2 _ _ (k _ _ hCp)) (k2 _ _ (k _ _ hep)) hu2 (by show 1 ≤ sizeLine; rw [sizeLine_eq]; omega) fun h2 t1 k3 e3 => ?_
  have X3 : K.In h2 := fun a o q => k3 a o (fun z => by rw [z, hKe] at q; cases q) (k2 _ _ (X1 a o q))
  obtain ⟨oL, es, ep, hL, rL⟩ := hns
  have hL2 := k3 _ _ (Ne.symm hne) (k2 _ _ (k _ _ hL))
  refine ks_wpAt_execs_cons (ks_wpAt_Assign_Attr ?_ (s13 _))
  refine wpAt_of_wpAny (wpAny_Name (wpAny_loadName_local s8 s4 ⟨oL, es, ep, hL2, rL⟩ hx ?_) s10)
  refine wpAny_Name (wpAny_loadName_local s8 s3 ⟨oL, es, ep, hL2, rL⟩ hself ?_) (by decide)
  refine set_plain X3 (ox := HandSPX.excO C t1) (od := none) ⟨e3, rfl, rfl, trivial⟩ T.sa ?_
  refine HandSPX.exc_osa X3 e3 hcl (show HandSPX.refsVE (.ref C :: bm) = true from hbm) rfl Z.no (fun h4 tk dx k4 dn dne hx4 hn4 => ?_)
  have hsz : hp.objs.size < h2.objs.size := Heap.lt_size hL2
  have fin := hq h4 tk dx t1 (fun b o hb q => k4 b o hb (k3 b o hb (k2 _ _ (k _ _ (hk _ _ q))))) (Nat.le_trans (Nat.le_of_lt hsz) dn) hx4 hn4
  refine wpAt_of_wpAny ?_
  rw [execs_nil]
  exact wpAny_pure fin
end
open L2 in
section
variable {X : Cx} {p pos : Pos} {e : Expr} {te : TE}
/-- C(e): the exception is let go, its dict stands -/
def tMkA (C : Addr) (f : Str) (te : TE) : L2.St → Hp → XK → Prop := fun σ H Q => te σ H fun y H1 => ∀ d, H1 d = none → Q (.ref C) (some d) (upd H1 d (.xd [(f, y)]))
theorem un_new {fs : List Addr} {H : Hp} {hp h' : Heap} {a C dx : Addr} {f : Str} {y : V} (e : H a = some (exo a C none)) (hnd : H dx = none) (nd : ∀ {b : Addr} {o : Obj}, hp.get? b = some o → b ≠ dx) (k : ∀ b o, b ≠ a → hp.get? b = some o → h'.get? b = some o) (hx : ∃ o, h'.get? a = some o) :
    Un fs [] H (upd (upd H dx (exd dx [(f, y)])) a (exo a C (some dx))) hp h' := by
  have na : ∀ {b : Addr}, H b = none → b ≠ a := fun {b} n z => by
    rw [z, e] at n
    cases n
  exact {
    keep := fun b o q n _ _ => k b o (na n) q
    slot := fun b o q n _ _ => ⟨o.slots, k b o (na n) q⟩
    free := fun b o q n _ => by rw [upd_ne (na n), upd_ne (nd q)]; exact n
    there := fun b o q _ => by
      by_cases hb : b = a
      · rw [hb]; exact hx
      · exact ⟨o, k b o hb q⟩
    tups := fun b xs q => by rw [upd_ne (at_ne e q exo_tup), upd_ne (ne_of_none q hnd)]; exact q
    frzs := fun b o v q => by rw [upd_ne (at_ne e q exo_frz), upd_ne (ne_of_none q hnd)]; exact q
    tbls := fun b ps q => ⟨#[], by rw [upd_ne (at_ne e q exo_tbl), upd_ne (ne_of_none q hnd), q]; simp⟩ }
theorem pmk_exa {x px f : Str} {C fI : Addr} {k : Nat} (T : OexC X.K C) (Z : InitA X.prog X.K C fI px f) (iC : PySem.W.findIn X.K (.ref C) "__init__" = some (some (.ref fI))) (tI : PySem.W.typeIn X.K (.ref fI) = some (.type "function"))
    (hr : Room (k + 1) X.A) (hg : Gl X x) (hm : X.mg x = some (.ref C)) (hs : X.mg "super" = none) (ha : PE X e te)
    (hdb : (x == ("__debug__" : Str)) = false := by decide) (he : starEach [e] X.env = (false, eval e X.env) :: starEach [] X.env := by rfl) (hpl : (backTo pos (starEach [] X.env)).any (·.1) = false := by rfl) :
    PMk X (.Call (.Name x p) [e] [] pos) (tMkA C f te) := by
  intro pins s σ H Q I h
  obtain ⟨nm, q, N, bs, bm, sn, sub, ab, col, dd, k0, k1, k2, k3, k5, hC, hbm⟩ := T.cls
  refine wpAny_Call_Name_kw (ld_glob I hg hm ?_ hdb)
  refine PySem.W.callWith_K (h₀ := X.base) I.ok.mod.kin T.kC (thn ((pa_cons ha pa_nil he).run pos pins s σ H (fun vs H1 => match vs with | [y] => ∀ d, H1 d = none → Q (.ref C) (some d) (upd H1 d (.xd [(f, y)])) | _ => False) I h) fun us s1 ⟨vs, H1, I1, r1, q1⟩ => ⟨I1.kIn, ?_⟩) he hpl
  obtain ⟨y, rfl⟩ : ∃ y, vs = [y] := by
    match vs, q1 with
    | [y], _ => exact ⟨y, rfl⟩
    | [], q => exact (show False from q).elim
    | _ :: _ :: _, q => exact (show False from q).elim
  have q1 : ∀ d, H1 d = none → Q (.ref C) (some d) (upd H1 d (.xd [(f, y)])) := q1
  obtain ⟨u, rfl, ru⟩ := L2.Vals.one r1
  show wpAny _ _ (call (.ref C) [u]) _ _ _
  obtain ⟨hp, g, dr, tk, os⟩ := s1
  have hsz : hp.objs.size ≤ hp.objs.size + 1 := Nat.le_succ _
  have hn : H1 (hp.objs.size + 1) = none := I1.hok.fresh hsz
  have kk : ∀ b o, hp.get? b = some o → ((hp.push (PySem.W.kdv_tup [u])).push (PySem.HandSPX.excO C hp.objs.size)).get? b = some o := fun b o e => Heap.get?_push_of_some _ (Heap.get?_push_of_some _ e)
  have hget : ((hp.push (PySem.W.kdv_tup [u])).push (PySem.HandSPX.excO C hp.objs.size)).get? (hp.objs.size + 1) = some (PySem.HandSPX.excO C hp.objs.size) := by heap_get
  have I2 : Inv X pins σ (upd H1 (hp.objs.size + 1) (exo (hp.objs.size + 1) C none)) ⟨(hp.push (PySem.W.kdv_tup [u])).push (PySem.HandSPX.excO C hp.objs.size), g, dr, tk, os⟩ :=
    I1.laid (t' := tk) (a := hp.objs.size + 1) (o := exo (hp.objs.size + 1) C none) (h' := (hp.push (PySem.W.kdv_tup [u])).push (PySem.HandSPX.excO C hp.objs.size)) kk hsz (exo_ok hget)
  have e0 := I2.env0.make C [u] []
  have bk : ∀ b o, X.base.get? b = some o → ((hp.push (PySem.W.kdv_tup [u])).push (PySem.HandSPX.excO C hp.objs.size)).get? b = some o := fun b o e => (e0.bs b o e).1
  obtain ⟨mb, hb1, hb2⟩ := e0.mod.blt
  have hKe : X.K.lookup (hp.objs.size + 1) = none := by
    cases z : X.K.lookup (hp.objs.size + 1) with
    | none => rfl
    | some o =>
      have := Heap.lt_size (show hp.get? (hp.objs.size + 1) = some o from I1.kIn _ _ z)
      exact absurd this (Nat.not_lt.mpr (Nat.le_succ _))
  refine wpAny_call (PySem.HandSPX.call_own F.excBase_ValueError (fun Y => PySem.HandSPX.refsVE_contains Y bm hbm) (I1.kIn _ _ hC) (PySem.W.looks_findIn I1.kIn iC) (fun self => PySem.W.bind_fn I1.kIn self tI) (by show 1 ≤ sizeLine; rw [sizeLine_eq]; omega)
    (init_attr T Z I2.kIn (e0.mod.nolimit.keeps bk) (hr.make C [u] []).depth (e0.mod.glob.keeps bk) hs (hb1.keeps bk) ((hb2 "super" (by decide)).trans (by decide +kernel)) hget hKe fun h' tk' dx t1 k dn hx hns => ?_))
  have ea : upd H1 (hp.objs.size + 1) (exo (hp.objs.size + 1) C none) (hp.objs.size + 1) = some (exo (hp.objs.size + 1) C none) := upd_same
  have dne : dx ≠ hp.objs.size + 1 := fun z => by
    have := Heap.lt_size hget
    rw [z] at dn
    exact absurd dn (by show ¬ _; exact Nat.not_le.mpr this)
  have hnd : upd H1 (hp.objs.size + 1) (exo (hp.objs.size + 1) C none) dx = none := I2.hok.fresh dn
  have nd : ∀ {b : Addr} {o : Obj}, ((hp.push (PySem.W.kdv_tup [u])).push (PySem.HandSPX.excO C hp.objs.size)).get? b = some o → b ≠ dx := fun {b o} q => Nat.ne_of_lt (Nat.lt_of_lt_of_le (Heap.lt_size q) dn)
  have U : ∀ fs, Un fs [] (upd H1 (hp.objs.size + 1) (exo (hp.objs.size + 1) C none)) (upd (upd (upd H1 (hp.objs.size + 1) (exo (hp.objs.size + 1) C none)) dx (exd dx [(f, y)])) (hp.objs.size + 1) (exo (hp.objs.size + 1) C (some dx))) ((hp.push (PySem.W.kdv_tup [u])).push (PySem.HandSPX.excO C hp.objs.size)) h' := fun fs => un_new ea hnd nd k ⟨_, hx⟩
  have hok2 : HOk X.prog X.w (upd (upd (upd H1 (hp.objs.size + 1) (exo (hp.objs.size + 1) C none)) dx (exd dx [(f, y)])) (hp.objs.size + 1) (exo (hp.objs.size + 1) C (some dx))) h' := fun b o q => by
    by_cases hb : b = hp.objs.size + 1
    · subst hb
      rw [upd_same] at q
      cases q
      exact exo_ok hx
    · rw [upd_ne hb] at q
      by_cases hd : b = dx
      · subst hd
        rw [upd_same] at q
        cases q
        exact exd_ok hns (relO_put (fs := []) ru fun g => True.intro)
      · rw [upd_ne hd] at q
        exact (I2.hok b o q).stay (fun c v hc z => k c v (by
            rcases hc with hc | hc
            · rw [hc]
              exact hb
            · exact at_ne ea hc exo_own) z)
          (fun c hc => by rw [upd_ne (at_ne ea hc exo_own), upd_ne (ne_of_none hc hnd)]; exact hc) (fun c xs hc => by rw [upd_ne (at_ne ea hc exo_tup), upd_ne (ne_of_none hc hnd)]; exact hc)
  have hd1 : H1 dx = none := by rw [upd_ne dne] at hnd; exact hnd
  refine ⟨rfl, mk_end (fs := [(f, y)]) (raises_own T.exC T.tyC) I1 hsz kk (U _) hok2 rfl I1.bare upd_same (by rw [upd_ne dne]; exact upd_same) hd1 ?_⟩
  have eH : upd (del (upd (upd (upd H1 (hp.objs.size + 1) (exo (hp.objs.size + 1) C none)) dx (exd dx [(f, y)])) (hp.objs.size + 1) (exo (hp.objs.size + 1) C (some dx))) (hp.objs.size + 1)) dx (.xd [(f, y)]) = upd H1 dx (.xd [(f, y)]) := by
    funext b
    by_cases hb : b = dx
    · rw [hb, upd_same, upd_same]
    · rw [upd_ne hb, upd_ne hb]
      by_cases hb2 : b = hp.objs.size + 1
      · rw [hb2, del_same, hn]
      · rw [del_ne hb2, upd_ne hb2, upd_ne hb, upd_ne hb2]
  rw [eH]
  exact q1 dx hd1
end
/-- the written part of such an __init__ -/
abbrev supX (msg : Str) (j : Nat) (p0 p1 p2 p3 p4 : Pos) : Expr := .Call (.Attribute (.Call (.Name "super" p0) [] [] p1) "__init__" p2) [.Constant (.str msg) j p3] [] p4
def InitW (stm : Stmt) (qual x f : Str) : Prop := ∃ (msg : Str) (j : Nat) (p0 p1 p2 p3 p4 p5 p6 p7 p8 p9 : Pos) (ar : Arg),
  L2.defBody stm = [.Expr (supX msg j p0 p1 p2 p3 p4) p5, .Assign [.Attribute (.Name "self" p6) f p7] (.Name x p8) p9] ∧
  ((L2.defArgs stm).posonlyargs ++ (L2.defArgs stm).args).head? = some ar ∧ ar.arg = ("self" : Str) ∧
  (∀ (kV doc pm ct : Value) (an : Option Addr) (cda cc : Addr) (e u : Value), bindArgs (ksFn "__init__" qual (L2.defArgs stm) (L2.defBody stm) (L2.defScope stm) .none kV doc pm an (.ref cda) ct cc) ⟨[e, u], []⟩ = pure [(("self" : Str), e), (x, u)]) ∧
  (L2.defScope stm).names.lookup ("super" : Str) = some .globalImplicit ∧ (L2.defScope stm).names.lookup ("__class__" : Str) = some .free ∧ (L2.defScope stm).names.lookup ("self" : Str) = some .local ∧ (L2.defScope stm).names.lookup x = some .local ∧ (∀ y ∈ (L2.defScope stm).names, y.2 ≠ .cell) ∧
  (L2.defScope stm).isCoroutine = false ∧ (L2.defScope stm).isGenerator = false ∧ (L2.defScope stm).kind = .function ∧ x ≠ ("self" : Str) ∧ (x == ("__debug__" : Str)) = false ∧
  (∀ (L fI cda cc : Addr), interactive (ksEnv qual (L2.defScope stm) L fI (.ref cda) cc) = false) ∧ (∀ (L fI cda cc : Addr), swapsWith (supX msg j p0 p1 p2 p3 p4) none p5.line (ksEnv qual (L2.defScope stm) L fI (.ref cda) cc) = pure false) ∧
  (∀ (L fI cda cc : Addr), swapsWith (.Name x p8) (some (.Attribute (.Name "self" p6) f p7)) p9.line (ksEnv qual (L2.defScope stm) L fI (.ref cda) cc) = pure false) ∧
  ∃ pl : Sem Bool, ∀ (L fI cda cc : Addr), eval (supX msg j p0 p1 p2 p3 p4) (ksEnv qual (L2.defScope stm) L fI (.ref cda) cc) = (do
      let ov ← attributeBase (.Call (.Name "super" p0) [] [] p1) "__init__" (ksEnv qual (L2.defScope stm) L fI (.ref cda) cc) (eval (.Call (.Name "super" p0) [] [] p1) (ksEnv qual (L2.defScope stm) L fI (.ref cda) cc))
      standAt p2.atName
      let (f, first) ← holding [ov] (getMethod ov "__init__" pl)
      callWith p4 f first (backTo p4 (starEach [.Constant (.str msg) j p3] (ksEnv qual (L2.defScope stm) L fI (.ref cda) cc))) [])
theorem initA_mk {P : Program} {K : Frag} {C fI cda cc : Addr} {qual x f : Str} {stm : Stmt} {oc kV doc pm ct ccl cl : Value} {od an cdd cld : Option Addr} {osl ccs csl : Array (Option Value)} {vs : Array Value} {file : Str} {tf : Tok} (W : InitW stm qual x f)
    (h1 : K.lookup fI = some ⟨oc, od, .func (ksFn "__init__" qual (L2.defArgs stm) (L2.defBody stm) (L2.defScope stm) .none kV doc pm an (.ref cda) ct cc), osl⟩) (h2 : codeIn K (.ref cda) qual = true) (h3 : K.lookup cda = some ⟨ccl, cdd, .fields vs, ccs⟩) (h4 : vs[2]? = some (.str file tf))
    (h5 : ((P.main.file : Str) == file) = true) (h6 : K.lookup cc = some ⟨cl, cld, .cell (some (.ref C)), csl⟩) (a1 : ks_superIn K C C "__init__" = some (some (.builtin "ValueError.__init__"))) (a2 : subIn K (.ref C) (.type "ValueError") = some true) (a3 : mroIn K C (.ref C) = some true)
    (a4 : nsIn K cStatics "thirdparty.any" = some none) (a5 : findIn K (.ref C) f = some none) (a6 : (P.main.scope.names.lookup ("super" : Str)).isSome = false) : InitA P K C fI x f := by
  obtain ⟨msg, j, p0, p1, p2, p3, p4, p5, p6, p7, p8, p9, ar, e0, e1, e2, e3, e4, e5, e6, e7, e8, e9, e10, e11, e12, e13, e14, e15, e16, pl, e17⟩ := W
  rw [e0] at h1 e3
  exact ⟨a1, a2, a3, a4, a5, a6, oc, ct, .none, kV, doc, pm, od, an, cda, cc, osl, qual, _, _, msg, j, p0, p1, p2, p3, p4, p5, p6, p7, p8, p9, vs, file, tf, ccl, cl, cdd, cld, ccs, csl, ar, h1, h2, h3, h4, h5, h6, e1, e2, fun s e u => .of_eq (e3 _ _ _ _ _ _ _ e u), e4, e5, e6, e7, e8, e9, e10, e11, e12, e13,
    fun L => e14 L fI cda cc, fun L => e15 L fI cda cc, fun L => e16 L fI cda cc, pl, fun L => e17 L fI cda cc⟩
/-- what is said of such a class by its name -/
structure ExaTxt (P : Program) (K : Frag) (mg : Str → Option Value) (x : Str) (C : Addr) (f : Str) : Prop where
  g : mg x = some (.ref C)
  s : mg "super" = none
  o : L2.OexC K C
  i : ∃ (fI : Addr) (px : Str), InitA P K C fI px f ∧ findIn K (.ref C) "__init__" = some (some (.ref fI)) ∧ typeIn K (.ref fI) = some (.type "function")
open L2 in
/-- raise C(e) -/
def dRaiseA (cls : Value) (f : Str) (pe : PTE) : PTS := fun w P ρ M => pe w ρ M fun d M1 => w cls [(f, d)] ρ M1
open L2 in
theorem ds_raiseA {X : Cx} {W : WX} {x f : Str} {p pos pos2 : Pos} {C : Addr} {e : Expr} {pe : PTE} {k : Nat} (hc : X.calm = true) (tk : Takes X W) (T : ExaTxt X.prog X.K X.mg x C f) (hr : Room (k + 1) X.A) (hg : Gl X x) (he : DE X W e pe) (hdb : (x == ("__debug__" : Str)) = false := by decide)
    (hst : starEach [e] X.env = (false, eval e X.env) :: starEach [] X.env := by rfl) (hpl : (backTo pos (starEach [] X.env)).any (·.1) = false := by rfl) :
    DS X W (.Raise (some (.Call (.Name x p) [e] [] pos)) none pos2) (dRaiseA (.ref C) f pe) := by
  obtain ⟨fI, px, Z, i1, i2⟩ := T.i
  refine ps_imp (ps_raise hc tk (pmk_exa T.o Z i1 i2 hr hg T.g T.s he hdb hst hpl)) fun D σ H ⟨g, ρ, M, F, O, P, w, A, h, hw, _⟩ => ?_
  refine ⟨g, ρ, M, F, O, _, w, A, h, hw, fun y H1 F1 O1 M1 d1 A1 s1 r1 q1 => fun d hd => ?_⟩
  have s2 := same_new (o := .xd [(f, y)]) (A1.f0 hd)
  exact hw (.ref C) (some d) σ _ ρ M1 _ O1 [(f, d1)] (A1.lay hd) (s1.trans s2) ⟨[(f, y)], upd_same, rfl, ⟨y, [], rfl, Rp.mono s2 _ _ r1, rfl⟩⟩ q1
end Px

set_option Elab.async false
set_option linter.all false
set_option maxRecDepth 100000
namespace Px
open PySem PySem.Spec PyProof.Rows L2
/-! # repr of data with empty dicts in it -/
mutual
def toE : D → PyData
  | .tup l => .tuple (toEL l)
  | .lst l => .list (toEL l)
  | .dic _ _ => .dict []
  | .int i => .int i
  | .str s => .str s
  | .bl b => .bool b
  | _ => .none
def toEL : List D → List PyData
  | [] => []
  | d :: ds => toE d :: toEL ds
end
def okE : Nat → D → Bool
  | _, .non => true
  | _, .bl _ => true
  | _, .int _ => true
  | _, .str s => PyData.strOk s
  | _, .dic [] [] => true
  | n + 1, .tup l => l.all (okE n)
  | n + 1, .lst l => l.all (okE n)
  | _, _ => false
mutual
inductive DpE (K : PySem.W.Frag) (H : Hp) : V → PyData → Prop
  | non : DpE K H .non .none
  | bl (b : Bool) : DpE K H (.bl b) (.bool b)
  | int (i : Int) : DpE K H (.int i) (.int i)
  | str (x : Str) : DpE K H (.str x) (.str x)
  | lst {a : Addr} {xs : List V} {ds : List PyData} : SqL K H a xs → DpEAll K H xs ds → DpE K H (.ref a) (.list ds)
  | tup {a : Addr} {xs : List V} {ds : List PyData} : SqT K H a xs → DpEAll K H xs ds → DpE K H (.ref a) (.tuple ds)
  | dic {a : Addr} : Rd H a (.dK []) → DpE K H (.ref a) (.dict [])
inductive DpEAll (K : PySem.W.Frag) (H : Hp) : List V → List PyData → Prop
  | nil : DpEAll K H [] []
  | cons {v : V} {vs : List V} {d : PyData} {ds : List PyData} : DpE K H v d → DpEAll K H vs ds → DpEAll K H (v :: vs) (d :: ds)
end
/-! the same, read off the heap: dicts are empty and none of them is sys.modules -/
mutual
inductive RdE (h : Heap) : Value → PyData → Prop
  | none : RdE h .none .none
  | bool (b : Bool) : RdE h (.bool b) (.bool b)
  | int (i : Int) (t : Tok) : RdE h (.int i t) (.int i)
  | str (x : Str) (t : Tok) : RdE h (.str x t) (.str x)
  | list {a : Addr} {o : Obj} {vs : Array Value} {n : Nat} {xs : List PyData} : h.get? a = some o → o.cls = .type "list" → o.data = .seq vs n → RdEAll h vs.toList xs → RdE h (.ref a) (.list xs)
  | tuple {a : Addr} {o : Obj} {vs : Array Value} {n : Nat} {xs : List PyData} : h.get? a = some o → o.cls = .type "tuple" → o.data = .seq vs n → RdEAll h vs.toList xs → RdE h (.ref a) (.tuple xs)
  | dict {a : Addr} {o : Obj} {n : Nat} : h.get? a = some o → o.cls = .type "dict" → o.data = .dict #[] n → (a == sysModules) = false → RdE h (.ref a) (.dict [])
inductive RdEAll (h : Heap) : List Value → List PyData → Prop
  | nil : RdEAll h [] []
  | cons {v : Value} {vs : List Value} {d : PyData} {ds : List PyData} : RdE h v d → RdEAll h vs ds → RdEAll h (v :: vs) (d :: ds)
end
section
variable {h₀ : Heap}
mutual
theorem RdE.reads : ∀ {v : Value} {d : PyData}, RdE h₀ v d → ∃ as, Reads h₀ v d as
  | _, _, .none => ⟨_, .none⟩
  | _, _, .bool b => ⟨_, .bool b⟩
  | _, _, .int i t => ⟨_, .int i t⟩
  | _, _, .str x t => ⟨_, .str x t⟩
  | _, _, .list h1 h2 h3 h4 => let ⟨_, r⟩ := RdEAll.reads h4; ⟨_, .list h1 h2 h3 r⟩
  | _, _, .tuple h1 h2 h3 h4 => let ⟨_, r⟩ := RdEAll.reads h4; ⟨_, .tuple h1 h2 h3 r⟩
  | _, _, .dict h1 h2 h3 _ => ⟨_, .dict (kvs := []) (as := []) (bs := []) h1 h2 h3 .nil .nil⟩
theorem RdEAll.reads : ∀ {vs : List Value} {ds : List PyData}, RdEAll h₀ vs ds → ∃ as, ReadsAll h₀ vs ds as
  | _, _, .nil => ⟨_, .nil⟩
  | _, _, .cons r k => let ⟨_, x⟩ := RdE.reads r; let ⟨_, y⟩ := RdEAll.reads k; ⟨_, .cons x y⟩
end
variable {prog : Program} {w : World}
mutual
theorem RdE.shows : ∀ {v : Value} {d : PyData}, RdE h₀ v d → d.showable = true → d.shown.length ≤ sizeLine → ∃ bs, ReadAtMost h₀ d.depth bs ∧ ReprK prog w bs h₀ d.depth v d.shown
  | _, _, .none, _, _ => ⟨[], (fun _ z => nomatch z), by simp only [PyData.shown]; exact .of_is ReprIs.none _ _ _⟩
  | _, _, .bool b, _, _ => ⟨[], (fun _ z => nomatch z), by simp only [PyData.shown]; exact .of_is (ReprIs.bool b) _ _ _⟩
  | _, _, .int i t, hs, _ => ⟨[], (fun _ z => nomatch z), by simp only [PyData.shown]; exact .of_is (ReprIs.int t (by simpa [PyData.showable] using hs)) _ _ _⟩
  | _, _, .str x t, _, hz => ⟨[], (fun _ z => nomatch z), by simp only [PyData.shown]; exact .of_is (ReprIs.str x t (by simpa only [PyData.shown] using hz)) _ _ _⟩
  | _, _, .list (a := a) (vs := vs) (xs := xs) h1 h2 h3 h4, hs, hz => by
    have hz2 : (listText (PyData.shownAll xs)).length ≤ sizeLine := by simpa only [PyData.shown] using hz
    obtain ⟨bs, b1, b2⟩ := RdEAll.shows h4 (by simpa [PyData.showable] using hs) fun t ht => Nat.le_trans (listText_mem_le ht) hz2
    obtain ⟨as, r0⟩ := RdEAll.reads h4
    have r := Reads.list h1 h2 h3 r0
    have out := not_mem_of_deeper r (by simp only [PyData.depth]; omega) b1
    refine ⟨a :: bs, ReadAtMost.cons r (by simp only [PyData.depth]; omega) b1, ?_⟩
    simp only [PyData.depth, PyData.shown]
    obtain ⟨l⟩ := vs
    cases l with
    | nil =>
      cases (show RdEAll h₀ [] xs from h4)
      simp only [PyData.shownAll, listText_nil]
      exact ReprK.listEmpty h1 h2 h3
    | cons y l => exact ReprK.list h1 h2 h3 out (by simpa using b2.length_eq) fun i z e => b2.item i z (by simpa using e)
  | _, _, .tuple (a := a) (xs := xs) h1 h2 h3 h4, hs, hz => by
    have hz2 : (tupleText (PyData.shownAll xs)).length ≤ sizeLine := by simpa only [PyData.shown] using hz
    obtain ⟨bs, b1, b2⟩ := RdEAll.shows h4 (by simpa [PyData.showable] using hs) fun t ht => Nat.le_trans (tupleText_mem_le ht) hz2
    obtain ⟨as, r0⟩ := RdEAll.reads h4
    have r := Reads.tuple h1 h2 h3 r0
    have out := not_mem_of_deeper r (by simp only [PyData.depth]; omega) b1
    refine ⟨a :: bs, ReadAtMost.cons r (by simp only [PyData.depth]; omega) b1, ?_⟩
    simp only [PyData.depth, PyData.shown]
    exact ReprK.tuple h1 h2 h3 out b2
  | _, _, .dict (a := a) h1 h2 h3 hsys, hs, hz => by
    have r : Reads h₀ (.ref a) (.dict []) _ := .dict (kvs := []) (as := []) (bs := []) h1 h2 h3 .nil .nil
    refine ⟨[a], ReadAtMost.cons r (n := 0) (Nat.zero_le _) (fun _ z => nomatch z), ?_⟩
    simp only [PyData.depth, PyData.shown, PyData.shownKv_eq]
    exact ReprK.dict h1 h2 h3 hsys (List.not_mem_nil) ReprEntriesK.nil
theorem RdEAll.shows : ∀ {vs : List Value} {ds : List PyData}, RdEAll h₀ vs ds → PyData.showableAll ds = true → (∀ t ∈ PyData.shownAll ds, t.length ≤ sizeLine) → ∃ bs, ReadAtMost h₀ (PyData.depthAll ds) bs ∧ ReprAllK prog w bs h₀ (PyData.depthAll ds) vs (PyData.shownAll ds)
  | _, _, .nil, _, _ => ⟨[], (fun _ z => nomatch z), by simp only [PyData.shownAll]; exact .nil⟩
  | _, _, .cons (d := d) (ds := ds) r k, hs, hz => by
    obtain ⟨s1, s2⟩ : d.showable = true ∧ PyData.showableAll ds = true := by simpa [PyData.showableAll] using hs
    obtain ⟨b1, x1, x2⟩ := RdE.shows r s1 (hz _ (by simp only [PyData.shownAll]; exact List.mem_cons_self ..))
    obtain ⟨b2, y1, y2⟩ := RdEAll.shows k s2 fun t ht => hz t (by simp only [PyData.shownAll]; exact List.mem_cons_of_mem _ ht)
    refine ⟨b1 ++ b2, ?_, ?_⟩
    · simp only [PyData.depthAll]
      exact (x1.mono (Nat.le_max_left _ _)).append (y1.mono (Nat.le_max_right _ _))
    · simp only [PyData.depthAll, PyData.shownAll]
      exact .cons ((x2.more fun b hb => List.mem_append_left _ hb).level_le (Nat.le_max_left _ _)) (y2.more_le (fun b hb => List.mem_append_right _ hb) (Nat.le_max_right _ _))
end
end
section
variable {h₀ : Heap} {prog : Program} {w : World} {a : Addr} {d : PyData}
theorem RdE.by_ (r : RdE h₀ (.ref a) d) (hs : d.showable = true) (hsz : d.shown.length ≤ sizeLine) : ∃ T idr, ShowsBy prog w h₀ a d T idr := by
  cases r with
  | list h1 h2 h3 h4 =>
    rename_i o vs n xs
    have hz2 : (listText (PyData.shownAll xs)).length ≤ sizeLine := by simpa only [PyData.shown] using hsz
    obtain ⟨bs, b1, b2⟩ := RdEAll.shows (prog := prog) (w := w) h4 (by simpa [PyData.showable] using hs) fun t ht => Nat.le_trans (listText_mem_le ht) hz2
    obtain ⟨as, r0⟩ := RdEAll.reads h4
    have out := not_mem_of_deeper (Reads.list h1 h2 h3 r0) (by simp only [PyData.depth]; omega) b1
    refine ⟨"list", "list.__repr__", F.slot_list_repr.toG, F.slot_list_str, F.slot_list_format, fun s k => ⟨o, k _ _ h1, h2⟩, fun A E s Q hg hu k hQ => ?_⟩
    simp only [PyData.depth] at hu
    simp only [PyData.shown] at hQ
    obtain ⟨l⟩ := vs
    cases l with
    | nil =>
      cases (show RdEAll h₀ [] xs from h4)
      simp only [PyData.shownAll, listText_nil] at hQ
      exact call_list_repr_empty ⟨o, k _ _ h1, h2⟩ (k _ _ h1) h3 (hQ s.heap _ _ fun _ _ e => e)
    | cons y l => exact call_list_reprK h1 h2 h3 out (by simpa using b2.length_eq) (fun i z e => b2.item i z (by simpa using e)) hg (fun b _ => Clear.nil b) hu k hQ hz2
  | tuple h1 h2 h3 h4 =>
    rename_i o vs n xs
    have hz2 : (tupleText (PyData.shownAll xs)).length ≤ sizeLine := by simpa only [PyData.shown] using hsz
    obtain ⟨bs, b1, b2⟩ := RdEAll.shows (prog := prog) (w := w) h4 (by simpa [PyData.showable] using hs) fun t ht => Nat.le_trans (tupleText_mem_le ht) hz2
    obtain ⟨as, r0⟩ := RdEAll.reads h4
    have out := not_mem_of_deeper (Reads.tuple h1 h2 h3 r0) (by simp only [PyData.depth]; omega) b1
    refine ⟨"tuple", "tuple.__repr__", F.slot_tuple_repr, F.slot_tuple_str, F.slot_tuple_format, fun s k => ⟨o, k _ _ h1, h2⟩, fun A E s Q hg hu k hQ => ?_⟩
    simp only [PyData.depth] at hu
    simp only [PyData.shown] at hQ
    exact call_tuple_reprK h1 h2 h3 out b2 hg (fun b _ => Clear.nil b) hu k hQ hz2
  | dict h1 h2 h3 hsys =>
    rename_i o n
    have hz2 : (dictText (PyData.shownKv [])).length ≤ sizeLine := by simpa only [PyData.shown] using hsz
    refine ⟨"dict", "dict.__repr__", F.slot_dict_repr, F.slot_dict_str, F.slot_dict_format, fun s k => ⟨o, k _ _ h1, h2⟩, fun A E s Q hg hu k hQ => ?_⟩
    simp only [PyData.depth] at hu
    simp only [PyData.shown, PyData.shownKv_eq] at hQ
    exact call_dict_reprK h1 h2 h3 hsys (List.not_mem_nil) ReprEntriesK.nil hg (fun b _ => Clear.nil b) hu k hQ (by simpa only [PyData.shownKv] using hz2)
end
theorem pairs_nil {κ : Type} [DecidableEq κ] {prog : Program} {w : World} {knd : _root_.PySem.KeyKind prog w κ} {l : List DictEntry} (h : Pairs knd l []) : l = [] := by cases h; rfl
section
variable {X : Cx} {pins : List (Addr × Obj)} {σ : L2.St} {H : Hp} {s : Shared}
mutual
theorem DpE.rdE (I : Inv X pins σ H s) : ∀ (d : PyData) (v : V) (u : Value), DpE X.K H v d → RelV v u → RdE s.heap u d
  | .none, _, _, h, r => by
    cases h
    cases r
    exact .none
  | .bool b, _, _, h, r => by
    cases h
    cases r
    exact .bool b
  | .int i, _, _, h, r => by
    cases h
    obtain ⟨t, rfl⟩ := r
    exact .int i t
  | .str x, _, _, h, r => by
    cases h
    obtain ⟨t, rfl⟩ := r
    exact .str x t
  | .list ds, _, _, h, r => by
    cases h with
    | lst hs ha =>
      cases r
      obtain ⟨its, rv, ⟨o, n, ho, hc, _, hd⟩, _⟩ := I.list hs
      exact .list ho hc hd (DpE.rdEAll I ds _ its ha rv)
  | .tuple ds, _, _, h, r => by
    cases h with
    | tup hs ha =>
      cases r
      obtain ⟨its, rv, ⟨o, ho, hc, n, hd⟩, _⟩ := I.tuple hs
      exact .tuple ho hc hd (DpE.rdEAll I ds _ its ha rv)
  | .dict kvs, _, _, h, r => by
    cases h with
    | dic hd =>
      cases r
      obtain ⟨_, hsm, vs, hv, ob, es, ep, ho, hc⟩ := hd.ok I.hok
      cases hv
      obtain ⟨h1, h2, h3, h4, h5⟩ := hc
      have e0 : es = #[] := Array.toList_eq_nil_iff.mp (pairs_nil h4)
      subst e0
      exact .dict ho h1.1 h2 hsm
theorem DpE.rdEAll (I : Inv X pins σ H s) : ∀ (ds : List PyData) (vs : List V) (us : List Value), DpEAll X.K H vs ds → Vals vs us → RdEAll s.heap us ds
  | [], _, _, h, r => by
    cases h
    cases r
    exact .nil
  | d :: ds, _, _, h, r => by
    cases h with
    | cons h1 h2 =>
      cases r with
      | cons r1 r2 => exact .cons (DpE.rdE I d _ _ h1 r1) (DpE.rdEAll I ds _ _ h2 r2)
end
end
def rReprE (K : PySem.W.Frag) : List V → Hp → VK → Prop := fun xs H Q => ∃ x d, xs = [x] ∧ DpE K H x d ∧ showOk d ∧ d.depth + 1 ≤ 64 ∧ Q (.str d.shown) H
section
variable {X : Cx} {W : WX} {K : PySem.W.Frag} {a : Expr} {pa : PTE} {p pos : Pos}
theorem call_reprE (hG : X.A.guards = some []) (hu : X.A.units + 64 < cLine) : CallR X (.builtin "repr") (rReprE X.K) := by
  intro pins s σ H xs us Q I r h
  obtain ⟨x, d, rfl, hd, ⟨h1, h2⟩, h3, q⟩ := h
  obtain ⟨u, rfl, ru⟩ := L2.Vals.one r
  have rd := DpE.rdE I d x u hd ru
  have hz : d.shown.length ≤ sizeLine := h2
  have fin : ∀ (a : Addr), u = .ref a → wpAny (model X.prog X.w) X.A (call (.builtin "repr") [u]) (EP X pins σ Q) X.xe s := fun a eu => by
    subst eu
    obtain ⟨T, idr, S⟩ := RdE.by_ (prog := X.prog) (w := X.w) rd h1 hz
    exact call_repr_slot (by omega) (S.typeIs s fun _ _ e => e) S.slotRepr (S.call X.A.in1 X.xe s _ hG (by show X.A.units + 1 + d.depth < cLine; omega) (fun _ _ e => e) fun h' t tk hk => ⟨_, _, rfl, ⟨.str d.shown, H, I.kept (t' := tk) hk, ⟨t, rfl⟩, q⟩⟩)
  cases hd with
  | non =>
    cases ru
    exact PySem.P.repr_of_none ⟨.str _, H, I.tok _, ⟨_, rfl⟩, q⟩
  | bl b =>
    cases ru
    refine PySem.P.repr_of_bool ⟨.str (PyData.shown (.bool b)), H, I.tok _, ⟨s.toks, ?_⟩, q⟩
    simp only [PyData.shown]
  | int i =>
    obtain ⟨t, rfl⟩ := ru
    exact PySem.P.repr_of_int (by simpa [PyData.showable] using h1) ⟨.str (PyData.shown (.int i)), H, I.tok _, ⟨s.toks, by simp only [PyData.shown]⟩, q⟩
  | str x =>
    obtain ⟨t, rfl⟩ := ru
    exact PySem.P.repr_of_str ⟨.str (PyData.shown (.str x)), H, I.tok _, ⟨s.toks, by simp only [PyData.shown]⟩, q⟩ (by simpa [PyData.shown] using hz)
  | lst h _ => exact fin _ ru
  | tup h _ => exact fin _ ru
  | dic h => exact fin _ ru
theorem dpE_all {F H : Hp} {n : Nat} (ih : ∀ d v, okE n d = true → Rp K F d v → DpE K H v (toE d)) : ∀ {l : List D} {xs : List V}, l.all (okE n) = true → RpL K F l xs → DpEAll K H xs (toEL l)
  | [], _, _, r => by rw [show _ = [] from r]; exact .nil
  | d :: l, _, h, ⟨x, r, e, h1, h2⟩ => by
    rw [List.all_cons, Bool.and_eq_true] at h
    rw [e]
    exact .cons (ih d x h.1 h1) (dpE_all ih h.2 h2)
theorem dpE_of {F H : Hp} (e : ∀ b u, F b = some u → H b = some u) : ∀ (n : Nat) (d : D) (v : V), okE n d = true → Rp K F d v → DpE K H v (toE d)
  | _, .non, _, _, r => by rw [show _ = V.non from r]; exact .non
  | _, .bl b, _, _, r => by rw [show _ = V.bl b from r]; exact .bl b
  | _, .int i, _, _, r => by rw [show _ = V.int i from r]; exact .int i
  | _, .str x, _, _, r => by rw [show _ = V.str x from r]; exact .str x
  | _, .dic [] [], _, _, ⟨a, kvs, ev, hd, hk, _⟩ => by
    have : kvs = [] := List.map_eq_nil_iff.mp hk
    subst this
    rw [ev]
    exact .dic (same_rd e hd)
  | n + 1, .tup l, _, h, ⟨a, xs, ev, hs, hr⟩ => by
    rw [ev]
    exact .tup (same_t e hs) (dpE_all (dpE_of e n) h hr)
  | n + 1, .lst l, _, h, ⟨a, xs, ev, hs, hr⟩ => by
    rw [ev]
    exact .lst (.inl (.inl (e _ _ hs))) (dpE_all (dpE_of e n) h hr)
  | 0, .tup _, _, h, _ => by simp [okE] at h
  | 0, .lst _, _, h, _ => by simp [okE] at h
  | _, .dic (_ :: _) _, _, h, _ => by simp [okE] at h
  | _, .dic [] (_ :: _), _, h, _ => by simp [okE] at h
  | _, .obj .., _, h, _ => by simp [okE] at h
  | _, .raw .., _, h, _ => by simp [okE] at h
  | _, .scr .., _, h, _ => by simp [okE] at h
  | _, .clo .., _, h, _ => by simp [okE] at h
  | _, .exv .., _, h, _ => by simp [okE] at h
theorem vw_dpE {g : Gh} {σ : L2.St} {H : Hp} {ρ : Rho} {M : Mm} {F : Hp} {O : Own} {d : D} {v : V} {n : Nat} (A : Ab K g σ H ρ M F O) (h : okE n d = true) (r : Vw K σ ρ F d v) : DpE K H v (toE d) := by
  rcases r with r | ⟨i, l, p, h1, h2, h3, h4⟩
  · exact dpE_of A.sub n d v h r
  · subst h4
    obtain ⟨q, xs, e1, e2, e3⟩ := Vw.lst A (.inr ⟨i, l, p, h1, h2, h3, rfl⟩)
    rw [e1]
    cases n with
    | zero => simp [okE] at h
    | succ n => exact .lst (.inl (.inl e2)) (dpE_all (dpE_of A.sub n) h e3)
def fReprE : F1 := fun x k => okE 50 x = true ∧ showOk (toE x) ∧ (toE x).depth + 1 ≤ 64 ∧ k (.str (toE x).shown)
theorem bf_reprE : BF1 K (rReprE K) fReprE := by
  intro g σ H ρ M F O x v k Q A rx h c
  obtain ⟨h1, h2, h3, hk⟩ := h
  exact ⟨v, _, rfl, vw_dpE A h1 rx, h2, h3, c (.str (toE x).shown) _ H F O A (Same.refl F) rfl hk⟩
theorem de_reprE (hG : X.A.guards = some []) (hu : X.A.units + 64 < cLine) (hg : Gl X "repr") (hm : X.mg "repr" = none) (ha : DO X W a pa) (he : starEach [a] X.env = (false, eval a X.env) :: starEach [] X.env := by rfl) (hpl : (backTo pos (starEach [] X.env)).any (·.1) = false := by rfl) :
    DE X W (.Call (.Name "repr" p) [a] [] pos) (dB1 fReprE pa) := de_b1 (call_reprE hG hu) bf_reprE hg hm (by decide +kernel) ha (by decide) (by decide) he hpl
end
/-! # x or y, by the truth of any data -/
def trD : D → Option Bool
  | .non => some false
  | .bl b => some b
  | .tup l => some (!l.isEmpty)
  | .lst l => some (!l.isEmpty)
  | _ => none
def dOrN (pa pb : PTE) : PTE := fun w ρ M q => pa w ρ M fun d M1 => match trD d with
  | some true => q d M1
  | some false => pb w ρ M1 q
  | none => False
section
variable {X : Cx} {W : WX} {a b : Expr} {rest : List Expr} {pa pb : PTE} {pos : Pos}
theorem tr_run {K : PySem.W.Frag} {F H : Hp} {d : D} {v : V} {c : Bool} (e : ∀ b u, F b = some u → H b = some u) (r : Rp K F d v) (h : trD d = some c) : TruV K v H c := by
  cases d with
  | non => rw [show v = .non from r]; exact (Option.some.inj h).symm
  | bl b => rw [show v = .bl b from r]; exact (Option.some.inj h).symm
  | tup l =>
    obtain ⟨a, xs, rfl, hs, rl⟩ := r
    refine .inr (.inl ⟨xs, same_t e hs, ?_⟩)
    have e1 := Option.some.inj h
    have := rl.len
    cases l <;> cases xs <;> first | exact e1.symm | cases this
  | lst l =>
    obtain ⟨a, xs, rfl, hs, rl⟩ := r
    refine .inl ⟨xs, .inl (.inl (e _ _ hs)), ?_⟩
    have e1 := Option.some.inj h
    have := rl.len
    cases l <;> cases xs <;> first | exact e1.symm | cases this
  | _ => cases h
theorem de_orN (ha : DE X W a pa) (hb : DE X W (.BoolOp .Or (b :: rest) pos) pb) : DE X W (.BoolOp .Or (a :: b :: rest) pos) (dOrN pa pb) := pe_imp (pe_orT ha hb) fun σ H Q ⟨g, ρ, M, F, O, q, w, A, pr, hw, k⟩ =>
  ⟨g, ρ, M, F, O, _, w, A, pr, hw, fun v H1 F1 O1 M1 d A1 s1 r1 q1 => by
    cases c : trD d with
    | none =>
      rw [c] at q1
      exact q1.elim
    | some t =>
      rw [c] at q1
      refine ⟨t, tr_run A1.sub r1 c, ?_⟩
      cases t with
      | true => exact k v H1 F1 O1 M1 d A1 s1 r1 q1
      | false => exact ⟨g, ρ, M1, F1, O1, q, w, A1, q1, hw.mono s1, fun v H2 F2 O2 M2 d A2 s2 r2 q2 => k v H2 F2 O2 M2 d A2 (s1.trans s2) r2 q2⟩⟩
end
end Px

set_option Elab.async false
set_option linter.all false
set_option maxRecDepth 100000
namespace Px
open PySem PySem.Spec PyProof.Rows L2
/-! # defs of the law k19: what is refused -/
def wrL : Nat → List D → Option Nat
  | _, [] => none
  | k, d :: r => if k = 6 ∨ btwD d 1 1000 = false then some k else wrL (k + 1) r
def wrH : D → Option Nat
  | .lst l => if l = [] then some 0 else wrL 0 l
  | .tup l => if l = [] then some 0 else wrL 0 l
  | _ => some 0
def itemsOf : D → List D
  | .lst l => l
  | .tup l => l
  | _ => []
def noScr : D → Bool
  | .scr _ => false
  | _ => true
def okv (d : D) : Prop := (plain d && noScr d) = true ∧ (itemsOf d).length ≤ 1000 ∧ ∀ x ∈ itemsOf d, plain x = true
theorem wrL_none : ∀ (l : List D) (k : Nat), k ≤ 6 → wrL k l = none → k + l.length ≤ 6 ∧ ∃ hs : List Int, l = hs.map .int ∧ ∀ n ∈ hs, (1 : Int) ≤ n ∧ n ≤ 1000
  | [], k, hk, _ => ⟨hk, [], rfl, fun _ h => by cases h⟩
  | d :: r, k, hk, h => by
    unfold wrL at h
    split at h
    · cases h
    · rename_i hc
      have h1 : k ≠ 6 := fun z => hc (.inl z)
      have h2 : btwD d 1 1000 = true := by
        cases z : btwD d 1 1000 with
        | true => rfl
        | false => exact absurd (.inr z) hc
      obtain ⟨hl, hs, rfl, hh⟩ := wrL_none r (k + 1) (by omega) h
      cases d with
      | int i =>
        have h3 : (decide (1 ≤ i) && decide (i ≤ 1000)) = true := h2
        simp only [Bool.and_eq_true, decide_eq_true_eq] at h3
        refine ⟨by simp only [List.length_cons]; omega, i :: hs, rfl, fun n hn => ?_⟩
        rcases List.mem_cons.mp hn with rfl | hn
        · exact h3
        · exact hh n hn
      | _ => cases h2
theorem wrH_none {d : D} (h : wrH d = none) : ∃ hs, isSeq d hs ∧ HsOk hs := by
  cases d with
  | lst l =>
    have h : (if l = [] then some 0 else wrL 0 l) = none := h
    split at h
    · cases h
    · rename_i hne
      obtain ⟨hl, hs, rfl, hh⟩ := wrL_none l 0 (by omega) h
      refine ⟨hs, .inl rfl, fun z => hne (by rw [z]; rfl), ?_, hh⟩
      rw [List.length_map] at hl; omega
  | tup l =>
    have h : (if l = [] then some 0 else wrL 0 l) = none := h
    split at h
    · cases h
    · rename_i hne
      obtain ⟨hl, hs, rfl, hh⟩ := wrL_none l 0 (by omega) h
      refine ⟨hs, .inr rfl, fun z => hne (by rw [z]; rfl), ?_, hh⟩
      rw [List.length_map] at hl; omega
  | _ => cases h
def sp__law_is_int (C : Cl) : PSp := fun ds M q _ => ar3 ds fun d a b => plain d = true ∧ asI a fun lo => asI b fun hi => q (.bl (btwD d lo hi)) M
def rd__law_is_int (C : Cl) : PTS := (dRet (dAndV (dB1 (fIsi "int") (dVar 0)) (dAndV (dNotV (dB1 (fIsi "bool") (dVar 0))) (dChain fLe fLe (dVar 1) (dVar 0) (dVar 2)))))
theorem sh__law_is_int (C : Cl) : Shows (sp__law_is_int C) 3 (rd__law_is_int C) := by
  intro ds M q e h
  obtain ⟨d, x, y, rfl, hp, h⟩ := ar3_of h
  obtain ⟨lo, rfl, h1⟩ := asI_of h
  obtain ⟨hi, rfl, hq⟩ := asI_of h1
  have ok : ∀ {b : Bool}, btwD d lo hi = b → ∃ M2, MLe M2 M ∧ q (.bl b) M2 := fun z => ⟨M, MLe.refl M, z ▸ hq⟩
  cases d with
  | int i =>
    show if decide (lo ≤ i) = true then _ else _
    by_cases c : lo ≤ i
    · refine itT (decide_eq_true c) (ok ?_)
      show (decide (lo ≤ i) && decide (i ≤ hi)) = _
      rw [decide_eq_true c]; rfl
    · refine itF (decide_eq_false c) (ok ?_)
      show (decide (lo ≤ i) && decide (i ≤ hi)) = _
      rw [decide_eq_false c]; rfl
  | bl b => exact ok rfl
  | _ => first | exact ok rfl | (exfalso; revert hp; simp [plain, tyD]; done)
def optN : Option Nat → D
  | none => .non
  | some k => .int k
def sp__law_wrong (C : Cl) : PSp := fun ds M q _ => ar1 ds fun d => okv d ∧ q (optN (wrH d)) M
def rd__law_wrong (C : Cl) : PTS := (dSeq (dIfS (dOr (dNot (dTst (dB1 (fIsi2 "list" "tuple") (dVar 0)))) (dTst (dOp fEq (dB1 fLen (dVar 0)) (dC (.int 0))))) (dRet (dC (.int 0))) dNext)
    (dSeq (dFor (iEA (dVar 0)) (gTp 2 (gsCons (gNm 1) (gsCons (gNm 2) gsNil))) (dIfS (dOr (dTst (dOp fEq (dVar 1) (dC (.int 6)))) (dNot (dTst (dCall (sp__law_is_int C) [] (dCons (dVar 2) (dCons (dC (.int 1)) (dCons (dC (.int 1000)) dNil))))))) (dRet (dVar 1)) dNext))
    (dRet (dC .non))))
def sp_need_halvesX (C : Cl) : PSp := fun ds M q e => ar1 ds fun d => okv d ∧ match wrH d with | some k => e (.ref C.BadHalves) [(("at" : Str), .int k)] M | none => q .non M
def rd_need_halvesX (C : Cl) : PTS := (dSeq (dIfS (dOr (dNot (dTst (dB1 (fIsi2 "list" "tuple") (dVar 0)))) (dTst (dOp fEq (dB1 fLen (dVar 0)) (dC (.int 0))))) (dRaiseA (.ref C.BadHalves) "at" (dC (.int 0))) dNext)
    (dFor (iEA (dVar 0)) (gTp 2 (gsCons (gNm 1) (gsCons (gNm 2) gsNil))) (dIfS (dOr (dTst (dOp fEq (dVar 1) (dC (.int 6)))) (dNot (dTst (dCall (sp_is_half C) [] (dCons (dVar 2) dNil))))) (dRaiseA (.ref C.BadHalves) "at" (dVar 1)) dNext)))
theorem wr_step {k : Nat} {y : D} {r : List D} : wrL k (y :: r) = if k = 6 ∨ btwD y 1 1000 = false then some k else wrL (k + 1) r := by rw [wrL]
/-- the walk over the items, one by one -/
theorem enum_wr {gd : PTG} {pb : PTS} {w : PWi} {P : PEnds} {M : Mm} {x0 : D} (l : List D) (hpl : ∀ x ∈ l, plain x = true)
    (hb : ∀ (k : Nat) (y : D) (x1 x2 : Option Sv) (F : Rho → Mm → Prop), plain y = true → ((k = 6 ∨ btwD y 1 1000 = false) → wrL 0 l = some k) → (¬ (k = 6 ∨ btwD y 1 1000 = false) → F [some (.val x0), some (.val (.int k)), some (.val y)] M) →
      gd (.tup [.int k, y]) [some (.val x0), x1, x2] fun ρ' => pb w { P with nx := F, ct := F, bk := P.nx } ρ' M)
    (hn : ∀ x1 x2, wrL 0 l = none → P.nx [some (.val x0), x1, x2] M) : forR gd pb w (enumD 0 l) P [some (.val x0), none, none] M := by
  refine forR_ind (fun rem ρ M' => M' = M ∧ ∃ (k : Nat) (r : List D) (x1 x2 : Option Sv), rem = enumD k r ∧ ρ = [some (.val x0), x1, x2] ∧ wrL k r = wrL 0 l ∧ ∀ x ∈ r, plain x = true) ?_ ?_ _ _ _ ⟨rfl, 0, l, none, none, rfl, rfl, rfl, hpl⟩
  · rintro d rr ρ M' ⟨rfl, k, r, x1, x2, er, rfl, ew, hr⟩ F hF
    cases r with
    | nil => cases er
    | cons y r =>
      have er : d :: rr = .tup [.int k, y] :: enumD (k + 1) r := er
      cases er
      rw [wr_step] at ew
      refine hb k y x1 x2 F (hr y List.mem_cons_self) (fun hc => ?_) (fun hc => ?_)
      · rw [if_pos hc] at ew; exact ew.symm
      · rw [if_neg hc] at ew
        exact hF _ _ ⟨rfl, k + 1, r, _, _, rfl, rfl, ew, fun x hx => hr x (List.mem_cons_of_mem _ hx)⟩
  · rintro ρ M' ⟨rfl, k, r, x1, x2, er, rfl, ew, hr⟩
    cases r with
    | nil => exact hn x1 x2 ew.symm
    | cons y r => cases er
theorem sh_need_halvesX (C : Cl) : Shows (sp_need_halvesX C) 3 (rd_need_halvesX C) := by
  intro ds M q e h
  obtain ⟨d, rfl, ⟨hp, hl, hpl⟩, h⟩ := ar1_of h
  have body : ∀ (l : List D), (∀ x ∈ l, plain x = true) → wrH d = wrL 0 l → forR (gTp 2 (gsCons (gNm 1) (gsCons (gNm 2) gsNil))) (dIfS (dOr (dTst (dOp fEq (dVar 1) (dC (.int 6)))) (dNot (dTst (dCall (sp_is_half C) [] (dCons (dVar 2) dNil))))) (dRaiseA (.ref C.BadHalves) "at" (dVar 1)) dNext)
      (fun cls fs _ M' => ∃ M2, MLe M2 M' ∧ e cls fs M2) (enumD 0 l) { nx := fun _ M' => ∃ M2, MLe M2 M' ∧ q .non M2, rt := fun d M' => ∃ M2, MLe M2 M' ∧ q d M2 } [some (.val d), none, none] M := by
    intro l hpl hw
    rw [hw] at h
    refine enum_wr l hpl (fun k y x1 x2 F hy hh hn => ⟨rfl, rfl, ?_⟩) (fun x1 x2 hn => ?_)
    · show if decide ((k : Int) = 6) = true then _ else _
      by_cases c : (k : Int) = 6
      · refine itT (decide_eq_true c) ?_
        rw [hh (.inl (by omega))] at h
        exact ⟨M, MLe.refl M, h⟩
      · refine itF (decide_eq_false c) ⟨hy, ?_⟩
        cases c2 : btwD y 1 1000 with
        | false =>
          rw [hh (.inr c2)] at h
          exact ⟨M, MLe.refl M, h⟩
        | true => exact hn (fun z => z.elim (fun z => c (by omega)) (fun z => by rw [c2] at z; cases z))
    · rw [hn] at h
      exact ⟨M, MLe.refl M, h⟩
  cases d with
  | lst l =>
    refine ⟨rfl, ?_⟩
    show if decide ((l.length : Int) = 0) = true then _ else _
    by_cases c : (l.length : Int) = 0
    · have : l = [] := List.eq_nil_of_length_eq_zero (by omega)
      subst this
      exact itT rfl ⟨M, MLe.refl M, h⟩
    · refine itF (decide_eq_false c) (body l hpl ?_)
      exact if_neg (fun z => c (by rw [z]; rfl))
  | tup l =>
    refine ⟨rfl, ?_⟩
    show if decide ((l.length : Int) = 0) = true then _ else _
    by_cases c : (l.length : Int) = 0
    · have : l = [] := List.eq_nil_of_length_eq_zero (by omega)
      subst this
      exact itT rfl ⟨M, MLe.refl M, h⟩
    · refine itF (decide_eq_false c) (body l hpl ?_)
      exact if_neg (fun z => c (by rw [z]; rfl))
  | _ => first | (exfalso; revert hp; simp [plain, tyD, noScr]; done) | exact ⟨M, MLe.refl M, h⟩
theorem sh__law_wrong (C : Cl) : Shows (sp__law_wrong C) 3 (rd__law_wrong C) := by
  intro ds M q e h
  obtain ⟨d, rfl, ⟨hp, hl, hpl⟩, h⟩ := ar1_of h
  have body : ∀ (l : List D), (∀ x ∈ l, plain x = true) → wrH d = wrL 0 l → ∀ (P : PEnds), P.rt = (fun d M' => ∃ M2, MLe M2 M' ∧ q d M2) → (∀ x1 x2, wrL 0 l = none → P.nx [some (.val d), x1, x2] M) → forR (gTp 2 (gsCons (gNm 1) (gsCons (gNm 2) gsNil))) (dIfS (dOr (dTst (dOp fEq (dVar 1) (dC (.int 6)))) (dNot (dTst (dCall (sp__law_is_int C) [] (dCons (dVar 2) (dCons (dC (.int 1)) (dCons (dC (.int 1000)) dNil))))))) (dRet (dVar 1)) dNext)
      (fun cls fs _ M' => ∃ M2, MLe M2 M' ∧ e cls fs M2) (enumD 0 l) P [some (.val d), none, none] M := by
    intro l hpl hw P hP hN
    rw [hw] at h
    refine enum_wr l hpl (fun k y x1 x2 F hy hh hn => ⟨rfl, rfl, ?_⟩) hN
    show if decide ((k : Int) = 6) = true then _ else _
    by_cases c : (k : Int) = 6
    · refine itT (decide_eq_true c) ?_
      rw [hh (.inl (by omega))] at h
      show P.rt _ _
      rw [hP]
      exact ⟨M, MLe.refl M, h⟩
    · refine itF (decide_eq_false c) ⟨hy, ?_⟩
      show if (!(btwD y 1 1000)) = true then _ else _
      cases c2 : btwD y 1 1000 with
      | false =>
        rw [hh (.inr c2)] at h
        show P.rt _ _
        rw [hP]
        exact ⟨M, MLe.refl M, h⟩
      | true => exact hn (fun z => z.elim (fun z => c (by omega)) (fun z => by rw [c2] at z; cases z))
  cases d with
  | lst l =>
    refine ⟨rfl, ?_⟩
    show if decide ((l.length : Int) = 0) = true then _ else _
    by_cases c : (l.length : Int) = 0
    · have : l = [] := List.eq_nil_of_length_eq_zero (by omega)
      subst this
      exact itT rfl ⟨M, MLe.refl M, h⟩
    · have e0 : wrH (.lst l) = wrL 0 l := if_neg (fun z => c (by rw [z]; rfl))
      refine itF (decide_eq_false c) (body l hpl e0 _ rfl fun x1 x2 hn => ?_)
      rw [e0, hn] at h
      exact ⟨M, MLe.refl M, h⟩
  | tup l =>
    refine ⟨rfl, ?_⟩
    show if decide ((l.length : Int) = 0) = true then _ else _
    by_cases c : (l.length : Int) = 0
    · have : l = [] := List.eq_nil_of_length_eq_zero (by omega)
      subst this
      exact itT rfl ⟨M, MLe.refl M, h⟩
    · have e0 : wrH (.tup l) = wrL 0 l := if_neg (fun z => c (by rw [z]; rfl))
      refine itF (decide_eq_false c) (body l hpl e0 _ rfl fun x1 x2 hn => ?_)
      rw [e0, hn] at h
      exact ⟨M, MLe.refl M, h⟩
  | _ => first | (exfalso; revert hp; simp [plain, tyD, noScr]; done) | exact ⟨M, MLe.refl M, h⟩
def sp_reachX (C : Cl) : PSp := fun ds M q e => ar1 ds fun d => okv d ∧ match wrH d with | some k => e (.ref C.BadHalves) [(("at" : Str), .int k)] M | none => ∀ x, q x M
def rd_reachX (C : Cl) : PTS := (dSeq (dDrop (dCall (sp_need_halvesX C) [] (dCons (dVar 0) dNil)))
    (dSeq (dSet 1 (dCall (sp_multiple C) [] (dCons (dVar 0) dNil)))
    (dSeq (dSet 2 (dL (dComp [3, 4] (iA (dCall (sp_splits C) [] (dCons (dVar 0) dNil))) (gTp 2 (gsCons (gNm 3) (gsCons (gNm 4) gsNil))) dYes (dOp fAdd (dVar 3) (dVar 4)))))
    (dRet (dTup (dCons (dB1 fMin (dOp fAdd (dL (dLst (dCons (dVar 1) dNil))) (dVar 2))) (dCons (dB1 fAll (dL (dComp [5] (iA (dVar 2)) (gNm 5) dYes (dOp fGt (dVar 5) (dVar 1))))) dNil)))))))
theorem sh_reachX (C : Cl) : Shows (sp_reachX C) 6 (rd_reachX C) := by
  intro ds M q e h
  obtain ⟨d, rfl, ho, h⟩ := ar1_of h
  refine ⟨ho, ?_⟩
  cases hw : wrH d with
  | some k =>
    rw [hw] at h
    exact ⟨M, MLe.refl M, h⟩
  | none =>
    rw [hw] at h
    obtain ⟨hs, hd, hh⟩ := wrH_none hw
    obtain ⟨_, _, _, rest⟩ := sh_reach C [d] M q e ⟨hs, hd, hh, fun x _ => h x⟩
    exact rest
def strB (lo hi : D) : Bool := match lo with | .int i => (decide (0 ≤ i) && decide (i ≤ 999999999999999999999999999999)) && btwD hi i 999999999999999999999999999999 | _ => false
def sp_alike_pairX (C : Cl) : PSp := fun ds M q e => ar3 ds fun d lo hi => (okv d ∧ plain lo = true ∧ plain hi = true) ∧ match wrH d with
  | some k => e (.ref C.BadHalves) [(("at" : Str), .int k)] M
  | none => if strB lo hi = true then ∀ x, q x M else e (.ref C.BadStretch) [] M
def rd_alike_pairX (C : Cl) : PTS := (dSeq (dDrop (dCall (sp_need_halvesX C) [] (dCons (dVar 0) dNil)))
    (dSeq (dIfS (dOr (dNot (dTst (dCall (sp_is_between C) [] (dCons (dVar 1) (dCons (dC (.int 0)) (dCons (dC (.int 999999999999999999999999999999)) dNil)))))) (dNot (dTst (dCall (sp_is_between C) [] (dCons (dVar 2) (dCons (dVar 1) (dCons (dC (.int 999999999999999999999999999999)) dNil))))))) (dRaise (.ref C.BadStretch)) dNext)
    (dSeq (dSet 3 (dCall (sp_pair_in C) [] (dCons (dVar 0) (dCons (dVar 1) (dCons (dVar 2) dNil)))))
    (dRet (dIf (dTst (dOp fIs (dVar 3) (dC .non))) (dC .non) (dTup (dCons (dTup (dCons (dOp fIx (dVar 3) (dC (.int 0))) (dCons (dC (.int 1)) dNil))) (dCons (dTup (dCons (dOp fIx (dVar 3) (dC (.int 1))) (dCons (dC (.int 1)) dNil))) dNil))))))))
theorem sh_alike_pairX (C : Cl) : Shows (sp_alike_pairX C) 4 (rd_alike_pairX C) := by
  intro ds M q e h0
  obtain ⟨d, lo, hi, rfl, ⟨ho, p1, p2⟩, h1⟩ := ar3_of h0
  clear h0
  refine ⟨ho, ?_⟩
  cases hw : wrH d with
  | some k =>
    rw [hw] at h1
    exact ⟨M, MLe.refl M, h1⟩
  | none =>
    rw [hw] at h1
    obtain ⟨hs, hd, hh⟩ := wrH_none hw
    have h2 : if strB lo hi = true then ∀ x, q x M else e (.ref C.BadStretch) [] M := h1
    clear h1
    have bad : strB lo hi = false → ∃ M2, MLe M2 M ∧ e (.ref C.BadStretch) [] M2 := fun z => by
      rw [z] at h2
      exact ⟨M, MLe.refl M, h2⟩
    cases lo with
    | int i =>
      by_cases c1 : 0 ≤ i ∧ i ≤ 999999999999999999999999999999
      · have b1 : btwD (.int i) 0 999999999999999999999999999999 = true := by
          show (decide (0 ≤ i) && decide (i ≤ 999999999999999999999999999999)) = true
          rw [decide_eq_true c1.1, decide_eq_true c1.2]; rfl
        cases c2 : btwD hi i 999999999999999999999999999999 with
        | false =>
          refine ⟨p1, itF (by rw [b1]; rfl) ⟨p2, itT (by rw [c2]; rfl) (bad ?_)⟩⟩
          show ((decide (0 ≤ i) && decide (i ≤ 999999999999999999999999999999)) && btwD hi i 999999999999999999999999999999) = false
          rw [c2, Bool.and_false]
        | true =>
          have hg : ∀ x, q x M := by
            rw [show strB (.int i) hi = true from by show ((decide (0 ≤ i) && decide (i ≤ 999999999999999999999999999999)) && btwD hi i 999999999999999999999999999999) = true; rw [c2, decide_eq_true c1.1, decide_eq_true c1.2]; rfl] at h2
            exact h2
          cases hi with
          | int j =>
            have b2 : (decide (i ≤ j) && decide (j ≤ 999999999999999999999999999999)) = true := c2
            simp only [Bool.and_eq_true, decide_eq_true_eq] at b2
            obtain ⟨_, _, _, rest⟩ := sh_alike_pair C [d, .int i, .int j] M q e ⟨hs, hd, hh, ⟨c1.1, b2.1, by have := b2.2; omega⟩, fun x _ => hg x⟩
            exact rest
          | _ => cases c2
      · have b1 : (decide (0 ≤ i) && decide (i ≤ 999999999999999999999999999999)) = false := by
          rw [← Bool.decide_and]; exact decide_eq_false c1
        refine ⟨p1, itT (by rw [show btwD (.int i) 0 999999999999999999999999999999 = false from b1]; rfl) (bad ?_)⟩
        show ((decide (0 ≤ i) && decide (i ≤ 999999999999999999999999999999)) && btwD hi i 999999999999999999999999999999) = false
        rw [b1, Bool.false_and]
    | _ => exact ⟨p1, bad rfl⟩
def sp_least_choicesX (C : Cl) : PSp := fun ds M q e => ar2 ds fun d hi => (okv d ∧ plain hi = true) ∧ match wrH d with
  | some k => e (.ref C.BadHalves) [(("at" : Str), .int k)] M
  | none => if btwD hi 1 999999999999999999999999999999 = true then ∀ x, q x M else e (.ref C.BadNumber) [] M
def rd_least_choicesX (C : Cl) : PTS := (dSeq (dDrop (dCall (sp_need_halvesX C) [] (dCons (dVar 0) dNil)))
    (dSeq (dIfS (dNot (dTst (dCall (sp_is_between C) [] (dCons (dVar 1) (dCons (dC (.int 1)) (dCons (dC (.int 999999999999999999999999999999)) dNil)))))) (dRaise (.ref C.BadNumber)) dNext)
    (dSeq (dSet 2 (dCall (sp_all_choices C) [] (dCons (dB1 fLen (dVar 0)) dNil)))
    (dRet (dCall (sp_least_ones C) [] (dCons (dL (dComp [3] (iA (dVar 2)) (gNm 3) (dTst (dOp fIs (dCall (sp_pair_in C) [] (dCons (dL (dComp [4] (iA (dVar 3)) (gNm 4) dYes (dOp fIx (dVar 0) (dVar 4)))) (dCons (dC (.int 0)) (dCons (dVar 1) dNil)))) (dC .non))) (dVar 3))) dNil))))))
theorem sh_least_choicesX (C : Cl) : Shows (sp_least_choicesX C) 5 (rd_least_choicesX C) := by
  intro ds M q e h0
  obtain ⟨d, hi, rfl, ⟨ho, p2⟩, h1⟩ := ar2_of h0
  clear h0
  refine ⟨ho, ?_⟩
  cases hw : wrH d with
  | some k =>
    rw [hw] at h1
    exact ⟨M, MLe.refl M, h1⟩
  | none =>
    rw [hw] at h1
    obtain ⟨hs, hd, hh⟩ := wrH_none hw
    have h2 : if btwD hi 1 999999999999999999999999999999 = true then ∀ x, q x M else e (.ref C.BadNumber) [] M := h1
    clear h1
    cases c2 : btwD hi 1 999999999999999999999999999999 with
    | false =>
      rw [c2] at h2
      exact ⟨p2, itT (by rw [c2]; rfl) ⟨M, MLe.refl M, h2⟩⟩
    | true =>
      rw [c2] at h2
      have h3 : ∀ x, q x M := h2
      cases hi with
      | int j =>
        have b2 : (decide (1 ≤ j) && decide (j ≤ 999999999999999999999999999999)) = true := c2
        simp only [Bool.and_eq_true, decide_eq_true_eq] at b2
        obtain ⟨_, _, _, rest⟩ := sh_least_choices C [d, .int j] M q e ⟨hs, hd, hh, ⟨b2.1, by have := b2.2; omega⟩, fun x _ => h3 x⟩
        exact rest
      | _ => cases c2
end Px

set_option Elab.async false
set_option linter.all false
set_option maxRecDepth 100000
namespace Px
open PySem PySem.Spec PyProof.Rows L2
/-! # the law k19 -/
structure ShE (n w : Nat) (d : D) : Prop where
  ok : okE n d = true
  sh : PyData.showable (toE d) = true
  lv : PyData.leavesShort 70 (toE d) = true
  wt : PyData.weight (toE d) ≤ w
  dp : (toE d).depth ≤ n + 1
structure ShEL (n w : Nat) (l : List D) : Prop where
  ok : l.all (okE n) = true
  sh : PyData.showableAll (toEL l) = true
  lv : PyData.leavesShortAll 70 (toEL l) = true
  wt : PyData.weightAll (toEL l) ≤ w
  dp : PyData.depthAll (toEL l) ≤ n + 1
theorem ShEL.all {n w : Nat} : ∀ {l : List D}, (∀ d ∈ l, ShE n w d) → ShEL n ((w + 1) * l.length) l
  | [], _ => ⟨rfl, rfl, rfl, by simp [toEL, PyData.weightAll], Nat.zero_le _⟩
  | d :: r, hh => by
    have h := hh d List.mem_cons_self
    have k := ShEL.all (l := r) fun x q => hh x (List.mem_cons_of_mem _ q)
    have e : (w + 1) * (d :: r).length = w + 1 + (w + 1) * r.length := by rw [List.length_cons, Nat.mul_succ]; omega
    rw [e]
    refine ⟨by rw [List.all_cons, h.ok, k.ok]; rfl, ?_, ?_, ?_, ?_⟩
    · show (PyData.showable (toE d) && PyData.showableAll (toEL r)) = true
      rw [h.sh, k.sh]; rfl
    · show (PyData.leavesShort 70 (toE d) && PyData.leavesShortAll 70 (toEL r)) = true
      rw [h.lv, k.lv]; rfl
    · show PyData.weight (toE d) + 1 + PyData.weightAll (toEL r) ≤ _
      have := h.wt; have := k.wt; omega
    · show max (toE d).depth (PyData.depthAll (toEL r)) ≤ n + 1
      exact Nat.max_le.mpr ⟨h.dp, k.dp⟩
theorem ShEL.up {n w w' : Nat} {l : List D} (h : ShEL n w l) (hw : w ≤ w') : ShEL n w' l := ⟨h.ok, h.sh, h.lv, Nat.le_trans h.wt hw, h.dp⟩
def Wt (L : Nat) : Nat → Nat
  | 0 => 211
  | n + 1 => 211 + (Wt L n + 1) * L
theorem Wt_ge (L n : Nat) : 211 ≤ Wt L n := by cases n <;> (unfold Wt; omega)
theorem gd_ShE {L B : Nat} (hB : B ≤ 10 ^ 60) : ∀ (n : Nat) (d : D), Gd L B n d → ShE n (Wt L n) d := by
  have leaf : ∀ (n : Nat) (d : D), ShE 0 211 d → (∀ l, d ≠ .tup l) → (∀ l, d ≠ .lst l) → ShE n (Wt L n) d := fun n d h h1 h2 =>
    ⟨by cases d with
      | tup l => exact absurd rfl (h1 l)
      | lst l => exact absurd rfl (h2 l)
      | dic a b => have := h.ok; cases a <;> cases b <;> cases n <;> exact this
      | _ => have := h.ok; cases n <;> exact this, h.sh, h.lv, Nat.le_trans h.wt (Wt_ge L n), Nat.le_trans h.dp (by omega)⟩
  have con : ∀ (n : Nat) (l : List D), (∀ d, Gd L B n d → ShE n (Wt L n) d) → l.length ≤ L → (∀ x ∈ l, Gd L B n x) → ShEL n (Wt L (n + 1)) l := fun n l ih hl hx =>
    (ShEL.all (l := l) fun d hd => ih d (hx d hd)).up (by
      have := Nat.mul_le_mul_left (Wt L n + 1) hl
      show _ ≤ 211 + (Wt L n + 1) * L
      omega)
  have lf : ∀ (n : Nat) (d : D), Gd L B n d → (∀ l, d ≠ .tup l) → (∀ l, d ≠ .lst l) → ShE n (Wt L n) d := fun n d h h1 h2 => by
    refine leaf n d ?_ h1 h2
    cases d with
    | tup l => exact absurd rfl (h1 l)
    | lst l => exact absurd rfl (h2 l)
    | non => exact ⟨rfl, rfl, rfl, by simp [toE, PyData.weight], Nat.zero_le _⟩
    | bl b => exact ⟨rfl, rfl, rfl, by simp [toE, PyData.weight], Nat.zero_le _⟩
    | int i =>
      have hi : i.natAbs ≤ B := by simpa [Gd] using h
      have := Shw.int (n := 0) (i := i) ⟨by omega, by omega⟩
      exact ⟨rfl, this.sh, this.lv, this.wt, Nat.zero_le _⟩
    | str x =>
      have hs : SOk x := by simpa [Gd] using h
      exact ⟨hs.1, rfl, hs.2.1, hs.2.2, Nat.zero_le _⟩
    | dic a b =>
      rcases a with _ | ⟨a0, a1⟩ <;> rcases b with _ | ⟨b0, b1⟩
      · exact ⟨rfl, rfl, by decide +kernel, by decide +kernel, by decide +kernel⟩
      all_goals (exfalso; revert h; simp [Gd]; done)
    | _ => exfalso; revert h; simp [Gd]
  intro n
  induction n with
  | zero =>
    intro d h
    exact lf 0 d h (fun l z => by rw [z] at h; simp [Gd] at h) (fun l z => by rw [z] at h; simp [Gd] at h)
  | succ n ih =>
    intro d h
    cases d with
    | tup l =>
      obtain ⟨m, em, h1, h2⟩ := h.tup
      cases em
      have k := con n l ih h1 h2
      exact ⟨k.ok, k.sh, k.lv, k.wt, Nat.succ_le_succ k.dp⟩
    | lst l =>
      obtain ⟨m, em, h1, h2⟩ := h.lst
      cases em
      have k := con n l ih h1 h2
      exact ⟨k.ok, k.sh, k.lv, k.wt, Nat.succ_le_succ k.dp⟩
    | _ => exact lf (n + 1) _ h (fun l z => by cases z) (fun l z => by cases z)
theorem okE_mono : ∀ (n m : Nat) (d : D), n ≤ m → okE n d = true → okE m d = true := by
  intro n
  induction n with
  | zero =>
    intro m d _ h
    cases d with
    | tup l => simp [okE] at h
    | lst l => simp [okE] at h
    | dic a b => cases a <;> cases b <;> cases m <;> exact h
    | _ => cases m <;> exact h
  | succ n ih =>
    intro m d hm h
    obtain ⟨m, rfl⟩ : ∃ k, m = k + 1 := ⟨m - 1, by omega⟩
    cases d with
    | tup l =>
      have h : l.all (okE n) = true := h
      show l.all (okE m) = true
      rw [List.all_eq_true] at h ⊢
      exact fun x hx => ih m x (by omega) (h x hx)
    | lst l =>
      have h : l.all (okE n) = true := h
      show l.all (okE m) = true
      rw [List.all_eq_true] at h ⊢
      exact fun x hx => ih m x (by omega) (h x hx)
    | dic a b => cases a <;> cases b <;> exact h
    | _ => exact h
/-- what repr asks -/
theorem gd_repr {L B n : Nat} {d : D} (hB : B ≤ 10 ^ 60) (hn : n ≤ 50) (hw : Wt L n ≤ 200000) (h : Gd L B n d) : okE 50 d = true ∧ showOk (toE d) ∧ (toE d).depth + 1 ≤ 64 := by
  have k := gd_ShE hB n d h
  refine ⟨okE_mono n 50 d hn k.ok, ⟨k.sh, ?_⟩, by have := k.dp; omega⟩
  have h1 := PyData.shown_le 70 (by decide) _ k.lv
  have h2 := Nat.mul_le_mul_left (70 + 2) (Nat.le_trans k.wt hw)
  omega
theorem gd_okv {L B n : Nat} {d : D} (hL : L ≤ 1000) (h : Gd L B n d) : okv d := by
  refine ⟨?_, ?_, ?_⟩
  · rw [h.plain]
    cases d with
    | scr l => simp [Gd] at h
    | _ => rfl
  · cases d with
    | tup l => obtain ⟨m, em, h1, h2⟩ := h.tup; show l.length ≤ 1000; omega
    | lst l => obtain ⟨m, em, h1, h2⟩ := h.lst; show l.length ≤ 1000; omega
    | _ => exact Nat.zero_le _
  · cases d with
    | tup l => obtain ⟨m, em, h1, h2⟩ := h.tup; exact fun x hx => (h2 x hx).plain
    | lst l => obtain ⟨m, em, h1, h2⟩ := h.lst; exact fun x hx => (h2 x hx).plain
    | _ => intro x hx; cases hx
abbrev tabK (C : Cl) (M : Mm) : Prop := M (C.tb 0) = some (.tab ((("law" : Str) ++ ".<locals>.") ++ "<lambda>"))
abbrev lamK (C : Cl) (A : PTE) : PTE := dLam (C.tb 0) ((("law" : Str) ++ ".<locals>.") ++ "<lambda>") (tt__law_refused C) A
def hvD (o : Option Nat) (x : D) : D := match o with | some k => .tup [.str "halves", .int k] | none => x
theorem ref_reach (C : Cl) {w : PWi} {ρ : Rho} {M : Mm} {q : PQ} {d : D} (hT : tabK C M) (h3 : gt (valsR ρ) 3 = some (.val d)) (ho : okv d) (h : q (hvD (wrH d) .non) M) : lamK C (dCall (sp_reachX C) [] (dCons (dVar 3) dNil)) w ρ M q := by
  refine ⟨hT, ?_⟩
  unfold tt__law_refused compL dCall dCons dVar dNil
  simp only [h3]
  refine ⟨ho, ?_⟩
  cases hw : wrH d with
  | some k =>
    rw [hw] at h
    exact ⟨.tup [.str "halves", .int k], .inl ⟨rfl, _, rfl, rfl⟩, h⟩
  | none =>
    rw [hw] at h
    exact fun x => h
theorem ref_alike (C : Cl) {w : PWi} {ρ : Rho} {M : Mm} {q : PQ} {d lo hi : D} (hT : tabK C M) (h3 : gt (valsR ρ) 3 = some (.val d)) (h9 : gt (valsR ρ) 9 = some (.val lo)) (h10 : gt (valsR ρ) 10 = some (.val hi)) (ho : okv d) (p1 : plain lo = true) (p2 : plain hi = true)
    (h : q (hvD (wrH d) (if strB lo hi = true then .non else .tup [.str "stretch", .non])) M) : lamK C (dCall (sp_alike_pairX C) [] (dCons (dVar 3) (dCons (dVar 9) (dCons (dVar 10) dNil)))) w ρ M q := by
  refine ⟨hT, ?_⟩
  unfold tt__law_refused compL dCall dCons dVar dNil
  simp only [h3, h9, h10]
  refine ⟨⟨ho, p1, p2⟩, ?_⟩
  cases hw : wrH d with
  | some k =>
    rw [hw] at h
    exact ⟨.tup [.str "halves", .int k], .inl ⟨rfl, _, rfl, rfl⟩, h⟩
  | none =>
    rw [hw] at h
    have h2 : q (if strB lo hi = true then .non else .tup [.str "stretch", .non]) M := h
    cases c : strB lo hi with
    | true =>
      rw [c] at h2
      exact itT rfl fun x => h2
    | false =>
      rw [c] at h2
      exact itF rfl ⟨.tup [.str "stretch", .non], .inr (.inr (.inr (.inr (.inr (.inr (.inr (.inr ⟨rfl, rfl⟩))))))), h2⟩
theorem ref_least (C : Cl) {w : PWi} {ρ : Rho} {M : Mm} {q : PQ} {d hi : D} (hT : tabK C M) (h3 : gt (valsR ρ) 3 = some (.val d)) (h10 : gt (valsR ρ) 10 = some (.val hi)) (ho : okv d) (p2 : plain hi = true)
    (h : q (hvD (wrH d) (if btwD hi 1 999999999999999999999999999999 = true then .non else .tup [.str "number", .non])) M) : lamK C (dCall (sp_least_choicesX C) [] (dCons (dVar 3) (dCons (dVar 10) dNil))) w ρ M q := by
  refine ⟨hT, ?_⟩
  unfold tt__law_refused compL dCall dCons dVar dNil
  simp only [h3, h10]
  refine ⟨⟨ho, p2⟩, ?_⟩
  cases hw : wrH d with
  | some k =>
    rw [hw] at h
    exact ⟨.tup [.str "halves", .int k], .inl ⟨rfl, _, rfl, rfl⟩, h⟩
  | none =>
    rw [hw] at h
    have h2 : q (if btwD hi 1 999999999999999999999999999999 = true then .non else .tup [.str "number", .non]) M := h
    cases c : btwD hi 1 999999999999999999999999999999 with
    | true =>
      rw [c] at h2
      exact itT rfl fun x => h2
    | false =>
      rw [c] at h2
      exact itF rfl ⟨.tup [.str "number", .non], .inr (.inr (.inr (.inr (.inr (.inr (.inr (.inl ⟨rfl, rfl⟩))))))), h2⟩
theorem rd_str (C : Cl) {w : PWi} {ρ : Rho} {M : Mm} {q : PQ} {lo hi : D} (h9 : gt ρ 9 = some (.val lo)) (h10 : gt ρ 10 = some (.val hi)) (p1 : plain lo = true) (p2 : plain hi = true) (h : q (.bl (strB lo hi)) M) :
    dAndV (dCall (sp__law_is_int C) [] (dCons (dVar 9) (dCons (dC (.int 0)) (dCons (dOp fSub (dOp fPow (dC (.int 10)) (dC (.int 30))) (dC (.int 1))) dNil)))) (dCall (sp__law_is_int C) [] (dCons (dVar 10) (dCons (dVar 9) (dCons (dOp fSub (dOp fPow (dC (.int 10)) (dC (.int 30))) (dC (.int 1))) dNil)))) w ρ M q := by
  have cp : CPow 10 30 := ⟨by decide, by decide, by decide⟩
  unfold dAndV dCall dCons dVar dC dOp dNil
  simp only [h9, h10]
  refine ⟨cp, p1, ?_⟩
  cases lo with
  | int i =>
    have h : q (.bl ((decide (0 ≤ i) && decide (i ≤ 999999999999999999999999999999)) && btwD hi i 999999999999999999999999999999)) M := h
    show if (decide (0 ≤ i) && decide (i ≤ 10 ^ 30 - 1)) = true then _ else _
    rw [show (10 : Int) ^ 30 - 1 = 999999999999999999999999999999 from by decide]
    cases c : (decide (0 ≤ i) && decide (i ≤ 999999999999999999999999999999)) with
    | true =>
      rw [c] at h
      refine itT rfl ⟨cp, p2, ?_⟩
      show q (.bl (btwD hi i (10 ^ 30 - 1))) M
      rw [show (10 : Int) ^ 30 - 1 = 999999999999999999999999999999 from by decide]
      exact h
    | false =>
      rw [c] at h
      exact itF rfl h
  | _ => exact h
def tl19b (C : Cl) : PTS := (dSeq (dSet 8 (dL (dLst (dCons (dC (.int 0)) (dCons (dC (.int 1)) (dCons (dC (.int 7)) (dCons (dOp fSub (dOp fPow (dC (.int 10)) (dC (.int 30))) (dC (.int 1))) (dCons (dOp fPow (dC (.int 10)) (dC (.int 30))) (dCons (dNeg (dC (.int 1))) (dCons (dC (.bl true)) (dCons (dC .non) (dCons (dC (.str "1")) (dCons (dTup (dCons (dC (.int 1)) (dCons (dC (.int 1)) dNil))) dNil)))))))))))))
    (dSeq (dAsg (dTup (dCons (dCall sp_pick [] (dCons (dVar 1) (dCons (dVar 8) dNil))) (dCons (dCall sp_pick [] (dCons (dVar 1) (dCons (dVar 8) dNil))) dNil))) (gTp 2 (gsCons (gNm 9) (gsCons (gNm 10) gsNil))))
    (dSeq (dSet 11 (dAndV (dCall (sp__law_is_int C) [] (dCons (dVar 9) (dCons (dC (.int 0)) (dCons (dOp fSub (dOp fPow (dC (.int 10)) (dC (.int 30))) (dC (.int 1))) dNil)))) (dCall (sp__law_is_int C) [] (dCons (dVar 10) (dCons (dVar 9) (dCons (dOp fSub (dOp fPow (dC (.int 10)) (dC (.int 30))) (dC (.int 1))) dNil))))))
    (dSeq (dIfS (dTst (dOp fNe (dLam (C.tb 0) ((("law" : Str) ++ ".<locals>.") ++ "<lambda>") (tt__law_refused C) (dCall (sp_reachX C) [] (dCons (dVar 3) dNil))) (dVar 7))) (dRet (dC (.bl false))) dNext)
    (dSeq (dIfS (dTst (dOp fNe (dLam (C.tb 0) ((("law" : Str) ++ ".<locals>.") ++ "<lambda>") (tt__law_refused C) (dCall (sp_alike_pairX C) [] (dCons (dVar 3) (dCons (dVar 9) (dCons (dVar 10) dNil))))) (dOrN (dVar 7) (dIf (dTst (dVar 11)) (dC .non) (dTup (dCons (dC (.str "stretch")) (dCons (dC .non) dNil))))))) (dRet (dC (.bl false))) dNext)
    (dSeq (dSet 12 (dIf (dTst (dCall (sp__law_is_int C) [] (dCons (dVar 10) (dCons (dC (.int 1)) (dCons (dOp fSub (dOp fPow (dC (.int 10)) (dC (.int 30))) (dC (.int 1))) dNil))))) (dC .non) (dTup (dCons (dC (.str "number")) (dCons (dC .non) dNil)))))
    (dIfS (dOr (dTst (dOp fNe (dLam (C.tb 0) ((("law" : Str) ++ ".<locals>.") ++ "<lambda>") (tt__law_refused C) (dCall (sp_least_choicesX C) [] (dCons (dVar 3) (dCons (dVar 10) dNil)))) (dOrN (dVar 7) (dVar 12)))) (dTst (dOp fNeS (dB1 fReprE (dVar 3)) (dVar 6)))) (dRet (dC (.bl false))) dNext)))))))
def tl19 (C : Cl) : PTS := (dSeq (dPar 5 6 (dCons (dCall (sp__law_wrong C) [] (dCons (dVar 3) dNil)) (dCons (dB1 fReprE (dVar 3)) dNil)))
    (dSeq (dSet 7 (dIf (dTst (dOp fIs (dVar 5) (dC .non))) (dC .non) (dTup (dCons (dC (.str "halves")) (dCons (dVar 5) dNil)))))
    (tl19b C)))
theorem okH (o : Option Nat) (x : D) (hx : okD 50 x = true) : okD 50 (hvD o x) = true := by
  cases o with
  | none => exact hx
  | some k => show (PyData.strOk "halves" && (true && true)) = true; decide +kernel
theorem eqH (o : Option Nat) (x : D) (hx : eqD x x = true) : eqD (hvD o x) (hvD o x) = true := by
  cases o with
  | none => exact hx
  | some k =>
    show (PyData.eqv (.str "halves") (.str "halves") && (decide ((k : Int) = k) && true)) = true
    rw [decide_eq_true rfl]; decide +kernel
theorem or_due {w : PWi} {ρ : Rho} {M : Mm} {q : PQ} {i : Nat} {o : Option Nat} {pb : PTE} {x : D} (h7 : gt ρ i = some (.val (hvD o .non))) (hb : ∀ q', q' x M → pb w ρ M q') (h : q (hvD o x) M) : dOrN (dVar i) pb w ρ M q := by
  unfold dOrN dVar
  simp only [h7]
  cases o with
  | none => exact hb q h
  | some k => exact h
theorem seq_if19 {f : F2} {pa pb : PTE} {p q r : PTS} {w : PWi} {P : PEnds} {ρ : Rho} {M : Mm} (h : pa w ρ M fun x M1 => pb w ρ M1 fun y M2 => f x y fun z => isB z fun b => if b = true then p w { P with nx := r w P } ρ M2 else q w { P with nx := r w P } ρ M2) :
    dSeq (dIfS (dTst (dOp f pa pb)) p q) r w P ρ M := h
theorem if_or19 {f : F2} {pa pb : PTE} {t : PTT} {p q : PTS} {w : PWi} {P : PEnds} {ρ : Rho} {M : Mm} (h : pa w ρ M fun x M1 => pb w ρ M1 fun y M2 => f x y fun z => isB z fun b => if b = true then p w P ρ M2 else t w ρ M2 fun b M3 => if b = true then p w P ρ M3 else q w P ρ M3) :
    dIfS (dOr (dTst (dOp f pa pb)) t) p q w P ρ M := h
theorem rd_num (C : Cl) {w : PWi} {ρ : Rho} {M : Mm} {q : PQ} {hi : D} (h10 : gt ρ 10 = some (.val hi)) (p2 : plain hi = true) (h : q (if btwD hi 1 999999999999999999999999999999 = true then .non else .tup [.str "number", .non]) M) :
    dIf (dTst (dCall (sp__law_is_int C) [] (dCons (dVar 10) (dCons (dC (.int 1)) (dCons (dOp fSub (dOp fPow (dC (.int 10)) (dC (.int 30))) (dC (.int 1))) dNil))))) (dC .non) (dTup (dCons (dC (.str "number")) (dCons (dC .non) dNil))) w ρ M q := by
  have cp : CPow 10 30 := ⟨by decide, by decide, by decide⟩
  have two : (2 : Nat) ≤ 1000000 := by decide
  unfold dIf dTst dCall dCons dVar dC dOp dNil
  simp only [h10]
  refine ⟨cp, p2, ?_⟩
  show if (btwD hi 1 (10 ^ 30 - 1)) = true then _ else _
  rw [show (10 : Int) ^ 30 - 1 = 999999999999999999999999999999 from by decide]
  cases c : btwD hi 1 999999999999999999999999999999 with
  | true =>
    rw [c] at h
    exact itT rfl h
  | false =>
    rw [c] at h
    exact itF rfl ⟨two, h⟩
theorem rd_sg {w : PWi} {ρ : Rho} {M : Mm} {q : PQ} {b : Bool} (h11 : gt ρ 11 = some (.val (.bl b))) (h : q (if b = true then .non else .tup [.str "stretch", .non]) M) :
    dIf (dTst (dVar 11)) (dC .non) (dTup (dCons (dC (.str "stretch")) (dCons (dC .non) dNil))) w ρ M q := by
  have two : (2 : Nat) ≤ 1000000 := by decide
  unfold dIf dTst dVar dC
  simp only [h11]
  cases b with
  | true => exact h
  | false => exact ⟨two, h⟩
def endsL : List D := [.int 0, .int 1, .int 7, .int 999999999999999999999999999999, .int (10 ^ 30), .int (-1), .bl true, .non, .str "1", .tup [.int 1, .int 1]]
theorem ends_plain {d : D} (h : d ∈ endsL) : plain d = true := List.all_eq_true.mp (show endsL.all plain = true from rfl) d h
set_option maxHeartbeats 2000000 in
theorem tl19b_ok (C : Cl) {w : PWi} {P : PEnds} {M : Mm} {a : Addr} {m : D} {y0 y2 y4 y5 y8 y9 y10 y11 y12 : Option Sv} (hm : M a = some .draw) (hT : tabK C M) (ho : okv m) (hr : okE 50 m = true ∧ showOk (toE m) ∧ (toE m).depth + 1 ≤ 64)
    (hP : ∀ z5 z6 z7 z8 z9 z10 z11 z12, P.nx [y0, some (.val (.raw (.ref a))), y2, some (.val m), y4, z5, z6, z7, z8, z9, z10, z11, z12, none] M) :
    tl19b C w P [y0, some (.val (.raw (.ref a))), y2, some (.val m), y4, y5, some (.val (.str (toE m).shown)), some (.val (hvD (wrH m) .non)), y8, y9, y10, y11, y12, none] M := by
  have cp : CPow 10 30 := ⟨by decide, by decide, by decide⟩
  have two : (2 : Nat) ≤ 1000000 := by decide
  have oks : okD 50 (.tup [.str "stretch", .non]) = true := by decide +kernel
  have okn : okD 50 (.tup [.str "number", .non]) = true := by decide +kernel
  have eqs : eqD (.tup [.str "stretch", .non]) (.tup [.str "stretch", .non]) = true := by decide +kernel
  have eqn : eqD (.tup [.str "number", .non]) (.tup [.str "number", .non]) = true := by decide +kernel
  refine ⟨cp, cp, two, by show (10 : Nat) ≤ 1000000; decide, hm, ⟨by show (0 : Nat) < 10; decide, by show (10 : Nat) ≤ 100000; decide⟩, fun lo hlo => ⟨hm, ⟨by show (0 : Nat) < 10; decide, by show (10 : Nat) ≤ 100000; decide⟩, fun hi hhi => ⟨two, rfl, ?_⟩⟩⟩
  have p1 := ends_plain (d := lo) hlo
  have p2 := ends_plain (d := hi) hhi
  refine rd_str C (ρ := [_, _, _, _, _, _, _, _, _, some (.val lo), some (.val hi), _, _, _]) rfl rfl p1 p2 ?_
  have os : okD 50 (if strB lo hi = true then .non else .tup [.str "stretch", .non]) = true := by split <;> first | exact oks | rfl
  have es : eqD (if strB lo hi = true then .non else .tup [.str "stretch", .non]) (if strB lo hi = true then .non else .tup [.str "stretch", .non]) = true := by split <;> first | exact eqs | rfl
  have on : okD 50 (if btwD hi 1 999999999999999999999999999999 = true then .non else .tup [.str "number", .non]) = true := by split <;> first | exact okn | rfl
  have en : eqD (if btwD hi 1 999999999999999999999999999999 = true then .non else .tup [.str "number", .non]) (if btwD hi 1 999999999999999999999999999999 = true then .non else .tup [.str "number", .non]) = true := by split <;> first | exact eqn | rfl
  show dSeq (dIfS (dTst (dOp fNe (lamK C _) _)) _ _) _ _ _ _ _
  refine seq_if19 ?_
  refine ref_reach C (ρ := [_, _, _, some (.val m), _, _, _, _, _, _, _, _, _, _]) hT rfl ho ?_
  refine ⟨by rw [okH _ _ rfl]; rfl, itF (by rw [eqH _ _ rfl]; rfl) ?_⟩
  show dSeq (dIfS (dTst (dOp fNe (lamK C _) _)) _ _) _ _ _ _ _
  refine seq_if19 ?_
  refine ref_alike C (ρ := [_, _, _, some (.val m), _, _, _, _, _, some (.val lo), some (.val hi), _, _, _]) hT rfl rfl rfl ho p1 p2 ?_
  refine or_due (ρ := [_, _, _, _, _, _, _, some (.val (hvD (wrH m) .non)), _, _, _, some (.val (.bl (strB lo hi))), _, _]) rfl (fun q' hq' => rd_sg rfl hq') ?_
  refine ⟨by rw [okH _ _ os]; rfl, itF (by rw [eqH _ _ es]; rfl) ?_⟩
  refine rd_num C (ρ := [_, _, _, _, _, _, _, _, _, _, some (.val hi), _, _, _]) rfl p2 ?_
  show dIfS (dOr (dTst (dOp fNe (lamK C _) _)) _) _ _ _ _ _ _
  refine if_or19 ?_
  refine ref_least C (ρ := [_, _, _, some (.val m), _, _, _, _, _, _, some (.val hi), _, _, _]) hT rfl rfl ho p2 ?_
  refine or_due (ρ := [_, _, _, _, _, _, _, some (.val (hvD (wrH m) .non)), _, _, _, _, some (.val (if btwD hi 1 999999999999999999999999999999 = true then .non else .tup [.str "number", .non])), _]) rfl (fun q' hq' => hq') ?_
  refine ⟨by rw [okH _ _ on]; rfl, itF (by rw [eqH _ _ en]; rfl) ?_⟩
  refine ⟨hr.1, hr.2.1, hr.2.2, itF (by show (!decide ((toE m).shown = (toE m).shown)) = false; rw [decide_eq_true rfl]; rfl) ?_⟩
  exact hP _ _ _ _ _ _ _ _
theorem par_wr {C : Cl} {r : PTS} {w : PWi} {P : PEnds} {M : Mm} {m : D} {y0 y1 y2 y4 y5 y6 y7 y8 y9 y10 y11 y12 y13 : Option Sv} (ho : okv m) (hr : okE 50 m = true ∧ showOk (toE m) ∧ (toE m).depth + 1 ≤ 64)
    (h : r w P [y0, y1, y2, some (.val m), y4, some (.val (optN (wrH m))), some (.val (.str (toE m).shown)), y7, y8, y9, y10, y11, y12, y13] M) :
    dSeq (dPar 5 6 (dCons (dCall (sp__law_wrong C) [] (dCons (dVar 3) dNil)) (dCons (dB1 fReprE (dVar 3)) dNil))) r w P [y0, y1, y2, some (.val m), y4, y5, y6, y7, y8, y9, y10, y11, y12, y13] M := by
  unfold dSeq dPar dCall dB1 dCons dVar dNil sp__law_wrong fReprE
  exact ⟨ho, hr.1, hr.2.1, hr.2.2, h⟩
theorem tl19_mid (C : Cl) {w : PWi} {P : PEnds} {M : Mm} {a : Addr} {m : D} (o : Option Nat) {y0 y2 y4 y6 y7 y8 y9 y10 y11 y12 : Option Sv}
    (h : tl19b C w P [y0, some (.val (.raw (.ref a))), y2, some (.val m), y4, some (.val (optN o)), y6, some (.val (hvD o .non)), y8, y9, y10, y11, y12, none] M) :
    dSeq (dSet 7 (dIf (dTst (dOp fIs (dVar 5) (dC .non))) (dC .non) (dTup (dCons (dC (.str "halves")) (dCons (dVar 5) dNil))))) (tl19b C) w P [y0, some (.val (.raw (.ref a))), y2, some (.val m), y4, some (.val (optN o)), y6, y7, y8, y9, y10, y11, y12, none] M := by
  have two : (2 : Nat) ≤ 1000000 := by decide
  unfold dSeq dSet dIf dTst dOp dVar dC dTup dCons dNil
  cases o with
  | none => exact ⟨rfl, h⟩
  | some k => exact ⟨rfl, two, h⟩
theorem tl19_ok (C : Cl) {w : PWi} {P : PEnds} {M : Mm} {a : Addr} {m : D} {y0 y2 y4 y5 y6 y7 y8 y9 y10 y11 y12 : Option Sv} (hm : M a = some .draw) (hT : tabK C M) (ho : okv m) (hr : okE 50 m = true ∧ showOk (toE m) ∧ (toE m).depth + 1 ≤ 64)
    (hP : ∀ z5 z6 z7 z8 z9 z10 z11 z12, P.nx [y0, some (.val (.raw (.ref a))), y2, some (.val m), y4, z5, z6, z7, z8, z9, z10, z11, z12, none] M) :
    tl19 C w P [y0, some (.val (.raw (.ref a))), y2, some (.val m), y4, y5, y6, y7, y8, y9, y10, y11, y12, none] M := by
  have key := tl19_mid C (w := w) (P := P) (M := M) (a := a) (m := m) (wrH m) (y0 := y0) (y2 := y2) (y4 := y4) (y6 := some (.val (.str (toE m).shown))) (y7 := y7) (y8 := y8) (y9 := y9) (y10 := y10) (y11 := y11) (y12 := y12)
    (tl19b_ok C hm hT ho hr hP)
  unfold tl19
  refine par_wr ho hr ?_
  exact key
theorem compR_draw {gd : PTG} {tt : PTT} {te : PTE} {ρ : Rho} {M : Mm} {q : List D → Mm → Prop} (G : D → Prop) : ∀ (ds acc : List D),
    (∀ d ∈ ds, ∀ (kt : D → Mm → Prop) (kf : Mm → Prop), (∀ y, G y → kt y M) → gd d ρ fun ρ' => tt w0 ρ' M fun b M1 => if b = true then te w0 ρ' M1 kt else kf M1) →
    acc.length + ds.length ≤ 1000000 → (∀ x ∈ acc, G x) → (∀ l, l.length = acc.length + ds.length → (∀ x ∈ l, G x) → q l M) → compR gd tt te ρ ds acc M q
  | [], acc, _, _, ha, h => h acc (by simp) ha
  | d :: r, acc, hb, hl, ha, h => hb d List.mem_cons_self _ _ fun y hy => ⟨by simp only [List.length_cons] at hl; omega, compR_draw G r (acc ++ [y]) (fun x hx => hb x (List.mem_cons_of_mem _ hx)) (by simp only [List.length_cons, List.length_append, List.length_nil] at hl ⊢; omega)
      (fun x hx => by
        rcases List.mem_append.mp hx with h1 | h1
        · exact ha x h1
        · rw [List.mem_singleton.mp h1]; exact hy) fun l hl2 hx => h l (by simp only [List.length_cons, List.length_append, List.length_nil] at hl2 ⊢; omega) hx⟩
def rd_law (C : Cl) : PTS := (dSeq (dSet 1 (dCall sp_begin [] (dCons (dVar 0) dNil)))
    (dSeq (dFor (iR1 (dOp fAdd (dC (.int 8)) (dOp fMin2 (dB1 fLen (dVar 0)) (dC (.int 30))))) (gNm 2) (dSeq (dSet 3 (dL (dComp [13] (iR1 (dOp fAdd (dC (.int 1)) (dCall sp_take [] (dCons (dVar 1) (dCons (dC (.int 7)) dNil))))) (gNm 13) dYes (dOp fAdd (dC (.int 1)) (dCall sp_take [] (dCons (dVar 1) (dCons (dCall sp_pick [] (dCons (dVar 1) (dCons (dL (dLst (dCons (dC (.int 9)) (dCons (dC (.int 1000)) dNil)))) dNil))) dNil)))))))
    (dSeq (dFor (iR1 (dCall sp_take [] (dCons (dVar 1) (dCons (dC (.int 3)) dNil)))) (gNm 4) (dSet 3 (dCall (sp__law_bent C) [] (dCons (dVar 1) (dCons (dVar 3) (dCons (dL (dLst (dCons (dC (.int 0)) (dCons (dC (.int 1)) (dCons (dC (.int 1000)) (dCons (dC (.int 1001)) (dCons (dNeg (dC (.int 5))) (dCons (dC (.bl true)) (dCons (dTup (dCons (dC (.int 5)) dNil)) (dCons (dC (.str "5")) dNil)))))))))) dNil))))))
    (dSeq (dPar 5 6 (dCons (dCall (sp__law_wrong C) [] (dCons (dVar 3) dNil)) (dCons (dB1 fReprE (dVar 3)) dNil)))
    (dSeq (dSet 7 (dIf (dTst (dOp fIs (dVar 5) (dC .non))) (dC .non) (dTup (dCons (dC (.str "halves")) (dCons (dVar 5) dNil)))))
    (dSeq (dSet 8 (dL (dLst (dCons (dC (.int 0)) (dCons (dC (.int 1)) (dCons (dC (.int 7)) (dCons (dOp fSub (dOp fPow (dC (.int 10)) (dC (.int 30))) (dC (.int 1))) (dCons (dOp fPow (dC (.int 10)) (dC (.int 30))) (dCons (dNeg (dC (.int 1))) (dCons (dC (.bl true)) (dCons (dC .non) (dCons (dC (.str "1")) (dCons (dTup (dCons (dC (.int 1)) (dCons (dC (.int 1)) dNil))) dNil)))))))))))))
    (dSeq (dAsg (dTup (dCons (dCall sp_pick [] (dCons (dVar 1) (dCons (dVar 8) dNil))) (dCons (dCall sp_pick [] (dCons (dVar 1) (dCons (dVar 8) dNil))) dNil))) (gTp 2 (gsCons (gNm 9) (gsCons (gNm 10) gsNil))))
    (dSeq (dSet 11 (dAndV (dCall (sp__law_is_int C) [] (dCons (dVar 9) (dCons (dC (.int 0)) (dCons (dOp fSub (dOp fPow (dC (.int 10)) (dC (.int 30))) (dC (.int 1))) dNil)))) (dCall (sp__law_is_int C) [] (dCons (dVar 10) (dCons (dVar 9) (dCons (dOp fSub (dOp fPow (dC (.int 10)) (dC (.int 30))) (dC (.int 1))) dNil))))))
    (dSeq (dIfS (dTst (dOp fNe (dLam (C.tb 0) ((("law" : Str) ++ ".<locals>.") ++ "<lambda>") (tt__law_refused C) (dCall (sp_reachX C) [] (dCons (dVar 3) dNil))) (dVar 7))) (dRet (dC (.bl false))) dNext)
    (dSeq (dIfS (dTst (dOp fNe (dLam (C.tb 0) ((("law" : Str) ++ ".<locals>.") ++ "<lambda>") (tt__law_refused C) (dCall (sp_alike_pairX C) [] (dCons (dVar 3) (dCons (dVar 9) (dCons (dVar 10) dNil))))) (dOrN (dVar 7) (dIf (dTst (dVar 11)) (dC .non) (dTup (dCons (dC (.str "stretch")) (dCons (dC .non) dNil))))))) (dRet (dC (.bl false))) dNext)
    (dSeq (dSet 12 (dIf (dTst (dCall (sp__law_is_int C) [] (dCons (dVar 10) (dCons (dC (.int 1)) (dCons (dOp fSub (dOp fPow (dC (.int 10)) (dC (.int 30))) (dC (.int 1))) dNil))))) (dC .non) (dTup (dCons (dC (.str "number")) (dCons (dC .non) dNil)))))
    (dIfS (dOr (dTst (dOp fNe (dLam (C.tb 0) ((("law" : Str) ++ ".<locals>.") ++ "<lambda>") (tt__law_refused C) (dCall (sp_least_choicesX C) [] (dCons (dVar 3) (dCons (dVar 10) dNil)))) (dOrN (dVar 7) (dVar 12)))) (dTst (dOp fNeS (dB1 fReprE (dVar 3)) (dVar 6)))) (dRet (dC (.bl false))) dNext))))))))))))
    (dRet (dC (.bl true)))))
abbrev RL19 (ns : List Int) (a : Addr) (M0 : Mm) : Rho → Mm → Prop := fun ρ M => M = updM M0 a .draw ∧ ∃ x2 x3 x4 x5 x6 x7 x8 x9 x10 x11 x12 : Option Sv, ρ = [some (.val (.scr ns)), some (.val (.raw (.ref a))), x2, x3, x4, x5, x6, x7, x8, x9, x10, x11, x12, none]
set_option maxHeartbeats 2000000 in
theorem sh_law (C : Cl) : Shows (sp_lawT [(C.tb 0, ((("law" : Str) ++ ".<locals>.") ++ "<lambda>"))]) 14 (rd_law C) := by
  intro ds M q e h
  obtain ⟨d, rfl, h⟩ := ar1_of h
  obtain ⟨ns, rfl, hn, ht, hq⟩ : ∃ ns, d = .scr ns ∧ ns.length ≤ 63 ∧ M (C.tb 0) = some (.tab ((("law" : Str) ++ ".<locals>.") ++ "<lambda>")) ∧ q (.bl true) M := by
    cases d with
    | scr ns => exact ⟨ns, rfl, h.1, h.2.1 _ List.mem_cons_self, h.2.2⟩
    | _ => exact (show False from h).elim
  have one : (1 : Nat) ≤ 1000000 := by decide
  have two : (2 : Nat) ≤ 1000000 := by decide
  refine ⟨hn, fun a ha => ?_⟩
  have hm : updM M a .draw a = some .draw := updM_same
  have hT : tabK C (updM M a .draw) := by
    unfold tabK updM
    rw [if_neg (fun z => by rw [z, ha] at ht; cases ht)]
    exact ht
  refine ⟨by omega, by omega, ?_⟩
  refine forR_inv (RL19 ns a M) _ ?_ ?_ _ _ ⟨rfl, none, none, none, none, none, none, none, none, none, none, none, rfl⟩
  · rintro d hd F hF ρ M' ⟨rfl, x2, x3, x4, x5, x6, x7, x8, x9, x10, x11, x12, rfl⟩
    obtain ⟨i, rfl, _, _⟩ := rngD_mem hd
    refine ⟨rfl, hm, ⟨by decide, log_sm (by decide) (by decide)⟩, fun n n0 n1 => ⟨by omega, by omega, ?_⟩⟩
    refine compR_draw (fun y => ∃ k : Int, y = .int k ∧ 1 ≤ k ∧ k ≤ 1000) _ [] (fun d hd kt kf hk => ?_) ?_ (fun x hx => by cases hx) fun l hl hx => ?_
    · refine ⟨two, hm, ⟨by show (0 : Nat) < 2; decide, by show (2 : Nat) ≤ 100000; decide⟩, fun x hx => ?_⟩
      obtain ⟨z, rfl, z0, z1⟩ : ∃ z : Int, x = .int z ∧ 0 < z ∧ z ≤ 1000 := by
        simp only [List.mem_cons, List.not_mem_nil, or_false] at hx
        rcases hx with rfl | rfl <;> exact ⟨_, rfl, by decide, by decide⟩
      exact ⟨hm, ⟨z0, log_sm (by omega) (by omega)⟩, fun k k0 k1 => hk _ ⟨_, rfl, by omega, by omega⟩⟩
    · unfold rngD; simp only [List.length_map, List.length_range, List.length_nil]; omega
    have hl7 : l.length ≤ 7 := by
      rw [hl]; unfold rngD; simp only [List.length_map, List.length_range, List.length_nil]; omega
    refine ⟨hm, ⟨by decide, log_sm (by decide) (by decide)⟩, fun t t0 t1 => ⟨by omega, by omega, ?_⟩⟩
    refine forR_ix (fun j ρ M' => M' = updM M a .draw ∧ ∃ (m : D) (x4 : Option Sv), Gd (7 + j) (10 ^ 30 + 2 * j) (1 + j) m ∧ ρ = [some (.val (.scr ns)), some (.val (.raw (.ref a))), some (.val (.int i)), some (.val m), x4, x5, x6, x7, x8, x9, x10, x11, x12, none]) _ 0 ?_ ?_ _ _ ⟨rfl, .lst l, x4, (gd_con (by omega) fun x hx2 => by
      obtain ⟨k, rfl, k0, k1⟩ := hx x hx2
      simp only [Gd]; omega).2, rfl⟩
    · rintro j dj hj F2 hF2 ρ M' ⟨rfl, m, x4, hg, rfl⟩
      have hj2 : j < 2 := by
        have := (List.getElem?_eq_some_iff.mp hj).1
        unfold rngD at this
        simp only [List.length_map, List.length_range] at this
        omega
      refine ⟨one, by show (8 : Nat) ≤ 1000000; decide, sp_bent C (L := 7 + (0 + j)) (B := 10 ^ 30 + 2 * (0 + j)) (N := 1 + (0 + j)) (S := 1) hm (by omega) hg ?_ ⟨by omega, by omega, by omega, by omega, by show (8 : Nat) < 100000; decide⟩ fun m' hm' => hF2 _ _ ⟨rfl, m', _, Gd.mono (by omega) (by omega) (by omega) hm', rfl⟩⟩
      intro x hx
      simp only [List.mem_cons, List.not_mem_nil, or_false] at hx
      rcases hx with rfl | rfl | rfl | rfl | rfl | rfl | rfl | rfl
      · simp only [Gd]; omega
      · simp only [Gd]; omega
      · simp only [Gd]; omega
      · simp only [Gd]; omega
      · simp only [Gd]; omega
      · simp only [Gd]
      · simp [Gd]; omega
      · simp only [Gd]; exact ⟨by decide +kernel, by decide +kernel, by decide +kernel⟩
    · rintro ρ M' ⟨rfl, m, x4, hg, rfl⟩
      have hk : 0 + (rngD 0 t.toNat).length ≤ 2 := by
        unfold rngD; simp only [List.length_map, List.length_range]; omega
      have hg2 : Gd 9 (10 ^ 31) 3 m := Gd.mono (by omega) (by omega) (by omega) hg
      exact tl19_ok C hm hT (gd_okv (by decide) hg2) (gd_repr (by decide) (by decide) (by decide) hg2) fun _ _ _ _ _ _ _ _ => hF _ _ ⟨rfl, _, _, _, _, _, _, _, _, _, _, _, rfl⟩
  · rintro ρ M' ⟨rfl, x2, x3, x4, x5, x6, x7, x8, x9, x10, x11, x12, rfl⟩
    exact ⟨M, updM_le ha, hq⟩
end Px

set_option Elab.async false
set_option linter.all false
set_option maxRecDepth 100000
namespace Px
open PySem PySem.Spec PyProof.Rows L2
def top (i : Nat) : Stmt := PySem.Challenge.pw_flashfolds_k19_halves_and_stretches_refu.main.body.getD i (.Pass ⟨0, 0, 0, 0⟩)
abbrev s_is_integer : Stmt := top 13
theorem sc_is_integer : FnScope ["thing"] ["thing"] (defScope s_is_integer) := ⟨rfl, rfl, rfl, by decide +kernel, rfl, by decide +kernel, by decide +kernel⟩
abbrev s_divisor : Stmt := top 15
theorem sc_divisor : FnScope ["one", "other"] ["one", "other"] (defScope s_divisor) := ⟨rfl, rfl, rfl, by decide +kernel, rfl, by decide +kernel, by decide +kernel⟩
abbrev s_all_choices : Stmt := top 26
theorem sc_all_choices : FnScope ["many", "found", "number", "at"] ["many"] (defScope s_all_choices) := ⟨rfl, rfl, rfl, by decide +kernel, rfl, by decide +kernel, by decide +kernel⟩
abbrev s_least_ones : Stmt := top 27
theorem sc_least_ones : FnScope ["choices", "found", "choice", "fewer", "one", "at"] ["choices"] (defScope s_least_ones) := ⟨rfl, rfl, rfl, by decide +kernel, rfl, by decide +kernel, by decide +kernel⟩
abbrev s__law_begin : Stmt := top 30
theorem sc__law_begin : FnScope ["_law_script", "_law_large", "_law_cell"] ["_law_script"] (defScope s__law_begin) := ⟨rfl, rfl, rfl, by decide +kernel, rfl, by decide +kernel, by decide +kernel⟩
abbrev s__law_take : Stmt := top 31
theorem sc__law_take : FnScope ["_law_draw", "_law_size", "_law_cell", "_law_found"] ["_law_draw", "_law_size"] (defScope s__law_take) := ⟨rfl, rfl, rfl, by decide +kernel, rfl, by decide +kernel, by decide +kernel⟩
abbrev s__law_is_int : Stmt := top 34
theorem sc__law_is_int : FnScope ["_law_worth", "_law_floor", "_law_roof"] ["_law_worth", "_law_floor", "_law_roof"] (defScope s__law_is_int) := ⟨rfl, rfl, rfl, by decide +kernel, rfl, by decide +kernel, by decide +kernel⟩
abbrev s__law_refused : Stmt := top 36
theorem sc__law_refused : FnScope ["_law_work", "_law_caught", "error", "_law_marks"] ["_law_work"] (defScope s__law_refused) := ⟨rfl, rfl, rfl, by decide +kernel, rfl, by decide +kernel, by decide +kernel⟩
abbrev s_is_between : Stmt := top 14
theorem sc_is_between : FnScope ["thing", "low", "high"] ["thing", "low", "high"] (defScope s_is_between) := ⟨rfl, rfl, rfl, by decide +kernel, rfl, by decide +kernel, by decide +kernel⟩
abbrev s_multiple : Stmt := top 16
theorem sc_multiple : FnScope ["numbers", "found", "number"] ["numbers"] (defScope s_multiple) := ⟨rfl, rfl, rfl, by decide +kernel, rfl, by decide +kernel, by decide +kernel⟩
abbrev s__law_pick : Stmt := top 32
theorem sc__law_pick : FnScope ["_law_draw", "_law_some"] ["_law_draw", "_law_some"] (defScope s__law_pick) := ⟨rfl, rfl, rfl, by decide +kernel, rfl, by decide +kernel, by decide +kernel⟩
abbrev s__law_wrong : Stmt := top 37
theorem sc__law_wrong : FnScope ["_law_matter", "_law_at", "_law_half"] ["_law_matter"] (defScope s__law_wrong) := ⟨rfl, rfl, rfl, by decide +kernel, rfl, by decide +kernel, by decide +kernel⟩
abbrev s_is_half : Stmt := top 17
theorem sc_is_half : FnScope ["thing"] ["thing"] (defScope s_is_half) := ⟨rfl, rfl, rfl, by decide +kernel, rfl, by decide +kernel, by decide +kernel⟩
abbrev s_splits : Stmt := top 22
theorem sc_splits : FnScope ["halves", "found", "number", "ours", "others", "at", "half"] ["halves"] (defScope s_splits) := ⟨rfl, rfl, rfl, by decide +kernel, rfl, by decide +kernel, by decide +kernel⟩
abbrev s__law_odd : Stmt := top 33
theorem sc__law_odd : FnScope ["_law_draw", "_law_some"] ["_law_draw"] (defScope s__law_odd) := ⟨rfl, rfl, rfl, by decide +kernel, rfl, by decide +kernel, by decide +kernel⟩
abbrev s_need_halves : Stmt := top 21
theorem sc_need_halves : FnScope ["halves", "at", "half"] ["halves"] (defScope s_need_halves) := ⟨rfl, rfl, rfl, by decide +kernel, rfl, by decide +kernel, by decide +kernel⟩
abbrev s_pair_in : Stmt := top 24
theorem sc_pair_in : FnScope ["halves", "low", "high", "whole", "middle", "one", "other", "spot"] ["halves", "low", "high"] (defScope s_pair_in) := ⟨rfl, rfl, rfl, by decide +kernel, rfl, by decide +kernel, by decide +kernel⟩
abbrev s_reach : Stmt := top 23
theorem sc_reach : FnScope ["halves", "whole", "sums", "one", "other", "number"] ["halves"] (defScope s_reach) := ⟨rfl, rfl, rfl, by decide +kernel, rfl, by decide +kernel, by decide +kernel⟩
abbrev s_alike_pair : Stmt := top 25
theorem sc_alike_pair : FnScope ["halves", "low", "high", "found"] ["halves", "low", "high"] (defScope s_alike_pair) := ⟨rfl, rfl, rfl, by decide +kernel, rfl, by decide +kernel, by decide +kernel⟩
abbrev s_least_choices : Stmt := top 28
theorem sc_least_choices : FnScope ["halves", "high", "every", "choice", "at"] ["halves", "high"] (defScope s_least_choices) := ⟨rfl, rfl, rfl, by decide +kernel, rfl, by decide +kernel, by decide +kernel⟩
abbrev s__law_bent : Stmt := top 35
theorem sc__law_bent : FnScope ["_law_draw", "_law_matter", "_law_spare", "_law_at", "_law_way", "_law_left", "_law_pair"] ["_law_draw", "_law_matter", "_law_spare"] (defScope s__law_bent) := ⟨rfl, rfl, rfl, by decide +kernel, rfl, by decide +kernel, by decide +kernel⟩
abbrev s_law : Stmt := top 38
theorem sc_law : FnScope ["_law_script", "_law_draw", "_law_turn", "_law_matter", "_law_lap", "_law_at", "_law_shown", "_law_due", "_law_ends", "_law_low", "_law_high", "_law_is_good", "_law_number", "_law_k"] ["_law_script"] (defScope s_law) := ⟨rfl, rfl, rfl, by decide +kernel, rfl, by decide +kernel, by decide +kernel⟩
abbrev s_BadHalves___init__ : Stmt := inClass (top 4) 0
theorem iw_BadHalves : InitW s_BadHalves___init__ "BadHalves.__init__" "at" "at" := ⟨_, _, _, _, _, _, _, _, _, _, _, _, _, rfl, rfl, rfl, fun _ _ _ _ _ _ _ _ _ => rfl, rfl, rfl, rfl, rfl, by decide +kernel, rfl, rfl, rfl, by decide, by decide, fun _ _ _ _ => rfl, fun _ _ _ _ => rfl, fun _ _ _ _ => rfl, _, fun _ _ _ _ => rfl⟩
structure Ad where
  (is_integer divisor all_choices least_ones _law_begin _law_take _law_is_int _law_refused is_between multiple _law_pick _law_wrong is_half splits _law_odd need_halves pair_in reach alike_pair least_choices _law_bent law : Addr × FuncData)
structure Txt (K : PySem.W.Frag) (mg : Str → Option Value) (base : Heap) (P : Program) (C : Cl) (A : Ad) : Prop where
  z_abs : mg "abs" = none
  z_all : mg "all" = none
  z_bool : mg "bool" = none
  z_divmod : mg "divmod" = none
  z_enumerate : mg "enumerate" = none
  z_int : mg "int" = none
  z_isinstance : mg "isinstance" = none
  z_len : mg "len" = none
  z_list : mg "list" = none
  z_min : mg "min" = none
  z_range : mg "range" = none
  z_repr : mg "repr" = none
  z_sorted : mg "sorted" = none
  z_super : mg "super" = none
  z_tuple : mg "tuple" = none
  c_GREATEST : ∃ t, mg "GREATEST" = some (.int 999999999999999999999999999999 t)
  c_GREATEST_HALF : ∃ t, mg "GREATEST_HALF" = some (.int 1000 t)
  c_MOST_HALVES : ∃ t, mg "MOST_HALVES" = some (.int 6 t)
  x_BadNumber : ExcTxt K mg "BadNumber" C.BadNumber
  x_BadStretch : ExcTxt K mg "BadStretch" C.BadStretch
  xa_BadHalves : ExaTxt P K mg "BadHalves" C.BadHalves "at"
  g_BadGroups : mg "BadGroups" = some (.ref C.BadGroups)
  g_BadHalf : mg "BadHalf" = some (.ref C.BadHalf)
  g_BadHalves : mg "BadHalves" = some (.ref C.BadHalves)
  g_BadLook : mg "BadLook" = some (.ref C.BadLook)
  g_BadNumber : mg "BadNumber" = some (.ref C.BadNumber)
  g_BadSpeed : mg "BadSpeed" = some (.ref C.BadSpeed)
  g_BadStretch : mg "BadStretch" = some (.ref C.BadStretch)
  g_Clash : mg "Clash" = some (.ref C.Clash)
  g_FlashError : mg "FlashError" = some (.ref C.FlashError)
  g_TooGreat : mg "TooGreat" = some (.ref C.TooGreat)
  xm_BadGroups_FlashError : PySem.W.exmOne K (.ref C.BadGroups) (.ref C.FlashError) = some true
  xm_BadHalf_FlashError : PySem.W.exmOne K (.ref C.BadHalf) (.ref C.FlashError) = some true
  xm_BadHalves_FlashError : PySem.W.exmOne K (.ref C.BadHalves) (.ref C.FlashError) = some true
  xm_BadLook_FlashError : PySem.W.exmOne K (.ref C.BadLook) (.ref C.FlashError) = some true
  xm_BadNumber_FlashError : PySem.W.exmOne K (.ref C.BadNumber) (.ref C.FlashError) = some true
  xm_BadSpeed_FlashError : PySem.W.exmOne K (.ref C.BadSpeed) (.ref C.FlashError) = some true
  xm_BadStretch_FlashError : PySem.W.exmOne K (.ref C.BadStretch) (.ref C.FlashError) = some true
  xm_Clash_FlashError : PySem.W.exmOne K (.ref C.Clash) (.ref C.FlashError) = some true
  xm_TooGreat_FlashError : PySem.W.exmOne K (.ref C.TooGreat) (.ref C.FlashError) = some true
  ec_BadGroups : ExC K C.BadGroups
  ec_BadHalf : ExC K C.BadHalf
  ec_BadHalves : ExC K C.BadHalves
  ec_BadLook : ExC K C.BadLook
  ec_BadNumber : ExC K C.BadNumber
  ec_BadSpeed : ExC K C.BadSpeed
  ec_BadStretch : ExC K C.BadStretch
  ec_Clash : ExC K C.Clash
  ec_TooGreat : ExC K C.TooGreat
  et_BadGroups : ∀ t ∈ tys, PySem.W.kitOne K (.type t) (.ref C.BadGroups) = some false
  et_BadHalf : ∀ t ∈ tys, PySem.W.kitOne K (.type t) (.ref C.BadHalf) = some false
  et_BadHalves : ∀ t ∈ tys, PySem.W.kitOne K (.type t) (.ref C.BadHalves) = some false
  et_BadLook : ∀ t ∈ tys, PySem.W.kitOne K (.type t) (.ref C.BadLook) = some false
  et_BadNumber : ∀ t ∈ tys, PySem.W.kitOne K (.type t) (.ref C.BadNumber) = some false
  et_BadSpeed : ∀ t ∈ tys, PySem.W.kitOne K (.type t) (.ref C.BadSpeed) = some false
  et_BadStretch : ∀ t ∈ tys, PySem.W.kitOne K (.type t) (.ref C.BadStretch) = some false
  et_Clash : ∀ t ∈ tys, PySem.W.kitOne K (.type t) (.ref C.Clash) = some false
  et_TooGreat : ∀ t ∈ tys, PySem.W.kitOne K (.type t) (.ref C.TooGreat) = some false
  xi_BadGroups_BadGroups : PySem.W.kitOne K (.ref C.BadGroups) (.ref C.BadGroups) = some true
  xi_BadGroups_BadHalf : PySem.W.kitOne K (.ref C.BadGroups) (.ref C.BadHalf) = some false
  xi_BadGroups_BadHalves : PySem.W.kitOne K (.ref C.BadGroups) (.ref C.BadHalves) = some false
  xi_BadGroups_BadLook : PySem.W.kitOne K (.ref C.BadGroups) (.ref C.BadLook) = some false
  xi_BadGroups_BadNumber : PySem.W.kitOne K (.ref C.BadGroups) (.ref C.BadNumber) = some false
  xi_BadGroups_BadSpeed : PySem.W.kitOne K (.ref C.BadGroups) (.ref C.BadSpeed) = some false
  xi_BadGroups_BadStretch : PySem.W.kitOne K (.ref C.BadGroups) (.ref C.BadStretch) = some false
  xi_BadGroups_Clash : PySem.W.kitOne K (.ref C.BadGroups) (.ref C.Clash) = some false
  xi_BadGroups_TooGreat : PySem.W.kitOne K (.ref C.BadGroups) (.ref C.TooGreat) = some false
  xi_BadHalf_BadGroups : PySem.W.kitOne K (.ref C.BadHalf) (.ref C.BadGroups) = some false
  xi_BadHalf_BadHalf : PySem.W.kitOne K (.ref C.BadHalf) (.ref C.BadHalf) = some true
  xi_BadHalf_BadHalves : PySem.W.kitOne K (.ref C.BadHalf) (.ref C.BadHalves) = some false
  xi_BadHalf_BadLook : PySem.W.kitOne K (.ref C.BadHalf) (.ref C.BadLook) = some false
  xi_BadHalf_BadNumber : PySem.W.kitOne K (.ref C.BadHalf) (.ref C.BadNumber) = some false
  xi_BadHalf_BadSpeed : PySem.W.kitOne K (.ref C.BadHalf) (.ref C.BadSpeed) = some false
  xi_BadHalf_BadStretch : PySem.W.kitOne K (.ref C.BadHalf) (.ref C.BadStretch) = some false
  xi_BadHalf_Clash : PySem.W.kitOne K (.ref C.BadHalf) (.ref C.Clash) = some false
  xi_BadHalf_TooGreat : PySem.W.kitOne K (.ref C.BadHalf) (.ref C.TooGreat) = some false
  xi_BadHalves_BadGroups : PySem.W.kitOne K (.ref C.BadHalves) (.ref C.BadGroups) = some false
  xi_BadHalves_BadHalf : PySem.W.kitOne K (.ref C.BadHalves) (.ref C.BadHalf) = some false
  xi_BadHalves_BadHalves : PySem.W.kitOne K (.ref C.BadHalves) (.ref C.BadHalves) = some true
  xi_BadHalves_BadLook : PySem.W.kitOne K (.ref C.BadHalves) (.ref C.BadLook) = some false
  xi_BadHalves_BadNumber : PySem.W.kitOne K (.ref C.BadHalves) (.ref C.BadNumber) = some false
  xi_BadHalves_BadSpeed : PySem.W.kitOne K (.ref C.BadHalves) (.ref C.BadSpeed) = some false
  xi_BadHalves_BadStretch : PySem.W.kitOne K (.ref C.BadHalves) (.ref C.BadStretch) = some false
  xi_BadHalves_Clash : PySem.W.kitOne K (.ref C.BadHalves) (.ref C.Clash) = some false
  xi_BadHalves_TooGreat : PySem.W.kitOne K (.ref C.BadHalves) (.ref C.TooGreat) = some false
  xi_BadLook_BadGroups : PySem.W.kitOne K (.ref C.BadLook) (.ref C.BadGroups) = some false
  xi_BadLook_BadHalf : PySem.W.kitOne K (.ref C.BadLook) (.ref C.BadHalf) = some false
  xi_BadLook_BadHalves : PySem.W.kitOne K (.ref C.BadLook) (.ref C.BadHalves) = some false
  xi_BadLook_BadLook : PySem.W.kitOne K (.ref C.BadLook) (.ref C.BadLook) = some true
  xi_BadLook_BadNumber : PySem.W.kitOne K (.ref C.BadLook) (.ref C.BadNumber) = some false
  xi_BadLook_BadSpeed : PySem.W.kitOne K (.ref C.BadLook) (.ref C.BadSpeed) = some false
  xi_BadLook_BadStretch : PySem.W.kitOne K (.ref C.BadLook) (.ref C.BadStretch) = some false
  xi_BadLook_Clash : PySem.W.kitOne K (.ref C.BadLook) (.ref C.Clash) = some false
  xi_BadLook_TooGreat : PySem.W.kitOne K (.ref C.BadLook) (.ref C.TooGreat) = some false
  xi_BadNumber_BadGroups : PySem.W.kitOne K (.ref C.BadNumber) (.ref C.BadGroups) = some false
  xi_BadNumber_BadHalf : PySem.W.kitOne K (.ref C.BadNumber) (.ref C.BadHalf) = some false
  xi_BadNumber_BadHalves : PySem.W.kitOne K (.ref C.BadNumber) (.ref C.BadHalves) = some false
  xi_BadNumber_BadLook : PySem.W.kitOne K (.ref C.BadNumber) (.ref C.BadLook) = some false
  xi_BadNumber_BadNumber : PySem.W.kitOne K (.ref C.BadNumber) (.ref C.BadNumber) = some true
  xi_BadNumber_BadSpeed : PySem.W.kitOne K (.ref C.BadNumber) (.ref C.BadSpeed) = some false
  xi_BadNumber_BadStretch : PySem.W.kitOne K (.ref C.BadNumber) (.ref C.BadStretch) = some false
  xi_BadNumber_Clash : PySem.W.kitOne K (.ref C.BadNumber) (.ref C.Clash) = some false
  xi_BadNumber_TooGreat : PySem.W.kitOne K (.ref C.BadNumber) (.ref C.TooGreat) = some false
  xi_BadSpeed_BadGroups : PySem.W.kitOne K (.ref C.BadSpeed) (.ref C.BadGroups) = some false
  xi_BadSpeed_BadHalf : PySem.W.kitOne K (.ref C.BadSpeed) (.ref C.BadHalf) = some false
  xi_BadSpeed_BadHalves : PySem.W.kitOne K (.ref C.BadSpeed) (.ref C.BadHalves) = some false
  xi_BadSpeed_BadLook : PySem.W.kitOne K (.ref C.BadSpeed) (.ref C.BadLook) = some false
  xi_BadSpeed_BadNumber : PySem.W.kitOne K (.ref C.BadSpeed) (.ref C.BadNumber) = some false
  xi_BadSpeed_BadSpeed : PySem.W.kitOne K (.ref C.BadSpeed) (.ref C.BadSpeed) = some true
  xi_BadSpeed_BadStretch : PySem.W.kitOne K (.ref C.BadSpeed) (.ref C.BadStretch) = some false
  xi_BadSpeed_Clash : PySem.W.kitOne K (.ref C.BadSpeed) (.ref C.Clash) = some false
  xi_BadSpeed_TooGreat : PySem.W.kitOne K (.ref C.BadSpeed) (.ref C.TooGreat) = some false
  xi_BadStretch_BadGroups : PySem.W.kitOne K (.ref C.BadStretch) (.ref C.BadGroups) = some false
  xi_BadStretch_BadHalf : PySem.W.kitOne K (.ref C.BadStretch) (.ref C.BadHalf) = some false
  xi_BadStretch_BadHalves : PySem.W.kitOne K (.ref C.BadStretch) (.ref C.BadHalves) = some false
  xi_BadStretch_BadLook : PySem.W.kitOne K (.ref C.BadStretch) (.ref C.BadLook) = some false
  xi_BadStretch_BadNumber : PySem.W.kitOne K (.ref C.BadStretch) (.ref C.BadNumber) = some false
  xi_BadStretch_BadSpeed : PySem.W.kitOne K (.ref C.BadStretch) (.ref C.BadSpeed) = some false
  xi_BadStretch_BadStretch : PySem.W.kitOne K (.ref C.BadStretch) (.ref C.BadStretch) = some true
  xi_BadStretch_Clash : PySem.W.kitOne K (.ref C.BadStretch) (.ref C.Clash) = some false
  xi_BadStretch_TooGreat : PySem.W.kitOne K (.ref C.BadStretch) (.ref C.TooGreat) = some false
  xi_Clash_BadGroups : PySem.W.kitOne K (.ref C.Clash) (.ref C.BadGroups) = some false
  xi_Clash_BadHalf : PySem.W.kitOne K (.ref C.Clash) (.ref C.BadHalf) = some false
  xi_Clash_BadHalves : PySem.W.kitOne K (.ref C.Clash) (.ref C.BadHalves) = some false
  xi_Clash_BadLook : PySem.W.kitOne K (.ref C.Clash) (.ref C.BadLook) = some false
  xi_Clash_BadNumber : PySem.W.kitOne K (.ref C.Clash) (.ref C.BadNumber) = some false
  xi_Clash_BadSpeed : PySem.W.kitOne K (.ref C.Clash) (.ref C.BadSpeed) = some false
  xi_Clash_BadStretch : PySem.W.kitOne K (.ref C.Clash) (.ref C.BadStretch) = some false
  xi_Clash_Clash : PySem.W.kitOne K (.ref C.Clash) (.ref C.Clash) = some true
  xi_Clash_TooGreat : PySem.W.kitOne K (.ref C.Clash) (.ref C.TooGreat) = some false
  xi_TooGreat_BadGroups : PySem.W.kitOne K (.ref C.TooGreat) (.ref C.BadGroups) = some false
  xi_TooGreat_BadHalf : PySem.W.kitOne K (.ref C.TooGreat) (.ref C.BadHalf) = some false
  xi_TooGreat_BadHalves : PySem.W.kitOne K (.ref C.TooGreat) (.ref C.BadHalves) = some false
  xi_TooGreat_BadLook : PySem.W.kitOne K (.ref C.TooGreat) (.ref C.BadLook) = some false
  xi_TooGreat_BadNumber : PySem.W.kitOne K (.ref C.TooGreat) (.ref C.BadNumber) = some false
  xi_TooGreat_BadSpeed : PySem.W.kitOne K (.ref C.TooGreat) (.ref C.BadSpeed) = some false
  xi_TooGreat_BadStretch : PySem.W.kitOne K (.ref C.TooGreat) (.ref C.BadStretch) = some false
  xi_TooGreat_Clash : PySem.W.kitOne K (.ref C.TooGreat) (.ref C.Clash) = some false
  xi_TooGreat_TooGreat : PySem.W.kitOne K (.ref C.TooGreat) (.ref C.TooGreat) = some true
  xf_BadGroups_at : PySem.W.findIn K (.ref C.BadGroups) "at" = some none
  xf_BadHalves_at : PySem.W.findIn K (.ref C.BadHalves) "at" = some none
  xf_BadLook_at : PySem.W.findIn K (.ref C.BadLook) "at" = some none
  xf_TooGreat_most : PySem.W.findIn K (.ref C.TooGreat) "most" = some none
  tb_law : ∃ c, A.law.2.code = .ref c ∧ LamX.TabB base mg c (C.tb 0)
  is_integer : DefT K mg "is_integer" s_is_integer ["thing"] A.is_integer.1 A.is_integer.2
  divisor : DefT K mg "divisor" s_divisor ["one", "other"] A.divisor.1 A.divisor.2
  all_choices : DefT K mg "all_choices" s_all_choices ["many"] A.all_choices.1 A.all_choices.2
  least_ones : DefT K mg "least_ones" s_least_ones ["choices"] A.least_ones.1 A.least_ones.2
  _law_begin : DefT K mg "_law_begin" s__law_begin ["_law_script"] A._law_begin.1 A._law_begin.2
  _law_take : DefT K mg "_law_take" s__law_take ["_law_draw", "_law_size"] A._law_take.1 A._law_take.2
  _law_is_int : DefT K mg "_law_is_int" s__law_is_int ["_law_worth", "_law_floor", "_law_roof"] A._law_is_int.1 A._law_is_int.2
  _law_refused : DefT K mg "_law_refused" s__law_refused ["_law_work"] A._law_refused.1 A._law_refused.2
  is_between : DefT K mg "is_between" s_is_between ["thing", "low", "high"] A.is_between.1 A.is_between.2
  multiple : DefT K mg "multiple" s_multiple ["numbers"] A.multiple.1 A.multiple.2
  _law_pick : DefT K mg "_law_pick" s__law_pick ["_law_draw", "_law_some"] A._law_pick.1 A._law_pick.2
  _law_wrong : DefT K mg "_law_wrong" s__law_wrong ["_law_matter"] A._law_wrong.1 A._law_wrong.2
  is_half : DefT K mg "is_half" s_is_half ["thing"] A.is_half.1 A.is_half.2
  splits : DefT K mg "splits" s_splits ["halves"] A.splits.1 A.splits.2
  _law_odd : DefT K mg "_law_odd" s__law_odd ["_law_draw"] A._law_odd.1 A._law_odd.2
  need_halves : DefT K mg "need_halves" s_need_halves ["halves"] A.need_halves.1 A.need_halves.2
  pair_in : DefT K mg "pair_in" s_pair_in ["halves", "low", "high"] A.pair_in.1 A.pair_in.2
  reach : DefT K mg "reach" s_reach ["halves"] A.reach.1 A.reach.2
  alike_pair : DefT K mg "alike_pair" s_alike_pair ["halves", "low", "high"] A.alike_pair.1 A.alike_pair.2
  least_choices : DefT K mg "least_choices" s_least_choices ["halves", "high"] A.least_choices.1 A.least_choices.2
  _law_bent : DefT K mg "_law_bent" s__law_bent ["_law_draw", "_law_matter", "_law_spare"] A._law_bent.1 A._law_bent.2
  law : DefT K mg "law" s_law ["_law_script"] A.law.1 A.law.2
section
variable {P : Program} {w : World} {K : PySem.W.Frag} {mg : Str → Option Value} {base : Heap} {C : Cl} {A : Ad}
theorem ok_is_integer (T : Txt K mg base P C A) : FnG P w K mg base 1 A.is_integer.1 A.is_integer.2 ["thing"] (toSp K 1 (sp_is_integer C)) :=
  Fun.pok T.is_integer.f sc_is_integer rfl (sh_is_integer C) fun cdv A' outer s H E hr hG =>
    (dss_one (ds_ret (de_and (de_isi "int" (by decide) rfl T.z_isinstance rfl T.z_int (by decide +kernel) (do_of (dv 0))) (de_bone (de_not (de_isi "bool" (by decide) rfl T.z_isinstance rfl T.z_bool (by decide +kernel) (do_of (dv 0))))))))

theorem ok_divisor (T : Txt K mg base P C A) : FnG P w K mg base 1 A.divisor.1 A.divisor.2 ["one", "other"] (toSp K 2 (sp_divisor C)) :=
  Fun.pok T.divisor.f sc_divisor rfl (sh_divisor C) fun cdv A' outer s H E hr hG =>
    (dss_cons (ds_while (passes_of rfl) (dt_gt (do_of (dv 1)) (do_of de_int)) (dss_one (ds_par 0 1 rfl sc_divisor.nd (da_cons (dv 1) (da_cons (de_mod (do_of (dv 0)) (do_of (dv 1))) da_nil)))))
      (dss_one (ds_ret (dv 0))))

theorem ok_all_choices (T : Txt K mg base P C A) : FnG P w K mg base 1 A.all_choices.1 A.all_choices.2 ["many"] (toSp K 1 (sp_all_choices C)) :=
  Fun.pok T.all_choices.f sc_all_choices rfl (sh_all_choices C) fun cdv A' outer s H E hr hG =>
    (dss_cons (ds_setO 1 sc_all_choices.nd (dl_lst da_nil))
      (dss_cons (ds_for (passes_of rfl) rfl (di_r2 rfl T.z_range de_int (de_shl (do_of de_int) (do_of (dv 0)))) (dg_nm 2 sc_all_choices.nd) (dss_one (ds_app 1 (de_tupc rfl T.z_tuple (do_of (de_l (dl_comp rfl sc_all_choices.nd (own := [("at", 3)]) (di_r1 rfl T.z_range (dv 0)) (blkOk_by rfl) (fun _ _ _ _ _ => (dg_nm 3 sc_all_choices.nd)) (fun _ _ _ _ _ => (dts_one (dt_eq hr.units (do_of (de_mod (do_of (de_shr (do_of (dv 2)) (do_of (dv 3)))) (do_of de_int))) (do_of de_int)))) (fun _ _ _ _ _ => (dv 3)))))))))
      (dss_one (ds_ret (de_l (dl_sorted (hu_in2 hr) rfl T.z_sorted (dn 1)))))))

theorem ok_least_ones (T : Txt K mg base P C A) : FnG P w K mg base 1 A.least_ones.1 A.least_ones.2 ["choices"] (toSp K 1 (sp_least_ones C)) :=
  Fun.pok T.least_ones.f sc_least_ones rfl (sh_least_ones C) fun cdv A' outer s H E hr hG =>
    (dss_cons (ds_setO 1 sc_least_ones.nd (dl_lst da_nil))
      (dss_cons (ds_for (passes_of rfl) rfl (di_any (dv 0)) (dg_nm 2 sc_least_ones.nd) (dss_cons (ds_setC 3 rfl sc_least_ones.nd (sw_true rfl rfl rfl (by decide +kernel)) (own := [("one", 4)]) (di_any (dv 0)) (blkOk_by rfl) (fun _ _ _ _ _ => (dg_nm 4 sc_least_ones.nd)) (fun _ _ _ _ _ => (dts_one (DW.dt (dw_and (dt_ne hr.units (do_of (dv 4)) (do_of (dv 2))) (dw_and1 (dt_val (de_all rfl rfl T.z_all (do_of (de_l (dl_comp rfl sc_least_ones.nd (own := [("at", 5)]) (di_any (dv 4)) (blkOk_by rfl) (fun _ _ _ _ _ => (dg_nm 5 sc_least_ones.nd)) (fun _ _ _ _ _ => dts_nil) (fun _ _ _ _ _ => (de_inI (do_of (dv 5)) (do_of (dv 2)))))))))))))) (fun _ _ _ _ _ => (dv 4)))
      (dss_one (ds_if (dt_eq hr.units (do_of (dv 3)) (do_of (de_l (dl_lst da_nil)))) (dss_one (ds_app 1 (dv 2))) dss_nil))))
      (dss_one (ds_frz 1 (ds_ret (dv 1))))))

theorem ok__law_begin (T : Txt K mg base P C A) : FnG P w K mg base 1 A._law_begin.1 A._law_begin.2 ["_law_script"] (toSp K 1 sp_begin) :=
  Fun.pok T._law_begin.f sc__law_begin rfl sh_begin fun cdv A' outer s H E hr hG =>
    (dss_cons (ds_setCO 1 rfl sc__law_begin.nd (sw_true rfl rfl rfl (by decide +kernel)) (own := [("_law_cell", 2)]) (di_list (dv 0)) (blkOk_by rfl) (fun _ _ _ _ _ => (dg_nm 2 sc__law_begin.nd)) (fun _ _ _ _ _ => (dts_one (dt_ge (do_of (de_abs rfl T.z_abs (do_of (dv 2)))) (do_of (de_pow (do_of de_int) (do_of de_int)))))) (fun _ _ _ _ _ => (de_abs rfl T.z_abs (do_of (dv 2))))) (dss_one (ds_retDraw (X := cxOf (L2.CX P w) P w K mg base ["_law_script", "_law_large", "_law_cell"] "_law_begin" (defScope s__law_begin) _ cdv A' outer s H E) rfl rfl (Or.inl rfl) (Or.inl rfl) (by decide) (by decide) (by decide) (by decide) rfl T.z_list)))

theorem ok__law_take (T : Txt K mg base P C A) : FnG P w K mg base 1 A._law_take.1 A._law_take.2 ["_law_draw", "_law_size"] (toSp K 2 sp_take) :=
  Fun.gok T._law_take.f sc__law_take (fun vs H Q E h => toSp_len h) fun cdv A' outer s H vs Q E hr hG h => ⟨rdTake K,
    (pss_cons (ps_if (L2.PW.pt (pw_and (pt_cmpR op_eq (dg0 hr "rest") pe_int (nomark _)) (pw_and1 (pt_cmpR (op_neD hr.units) (dg0 hr "large") (pe_lst pa_nil) (nomark _)))))
      (pss_one (ps_dput (hu_of hr) (pv 0) pe_str (pe_bm PySem.F.plainAttrs_list PySem.F.slot_list_pop PySem.F.type_list_pop mt_popAt (dg0 hr "large") (pa_cons pe_int pa_nil)) rfl))
      (pss_one (ps_if (pt_cmpR op_eq (dg0 hr "rest") pe_int (nomark _))
        (pss_cons (ps_dput (hu_of hr) (pv 0) pe_str (pe_op op_add (dg0 hr "turn") pe_int) rfl)
        (pss_cons (ps_for (passes_of rfl) rfl (pi_list (pe_op op_cat (pe_lst (pa_cons (dg0 hr "turn") pa_nil)) (dg0 hr "cells"))) (pg_name (i := 2) sc__law_take.nd rfl (Or.inl rfl))
          (pss_one (ps_dput (hu_of hr) (pv 0) pe_str (pe_op op_mod (pe_callTy call_int1 rfl T.z_int (by decide +kernel) (pa_cons (pe_op op_add (pe_op op_add (pe_op op_mul (dg0 hr "mix") pe_int) (pe_op op_mul (pv 2) pe_int)) pe_int) pa_nil) (by decide) (by decide)) pe_int) rfl)))
        (pss_one (ps_dput (hu_of hr) (pv 0) pe_str (pe_op op_mod (pe_callTy call_int1 rfl T.z_int (by decide +kernel) (pa_cons (pe_op op_pow (dg0 hr "mix") pe_int) pa_nil) (by decide) (by decide)) pe_int) rfl))))
        pss_nil)))
    (pss_cons (ps_asg (pe_callB call_divmodW rfl T.z_divmod (by decide +kernel) (pa_cons (dg0 hr "rest") (pa_cons (pv 1) pa_nil)) (by decide) (by decide)) (pg_tup rfl (pgs_cons (pg_sub (pv 0) pe_str (set_dict (hu_of hr))) (pgs_cons (pg_name (i := 3) sc__law_take.nd rfl (Or.inl rfl)) pgs_nil))))
    (pss_one (ps_ret (pv 3))))), take_run rfl h⟩

theorem ok__law_is_int (T : Txt K mg base P C A) : FnG P w K mg base 1 A._law_is_int.1 A._law_is_int.2 ["_law_worth", "_law_floor", "_law_roof"] (toSp K 3 (sp__law_is_int C)) :=
  Fun.pok T._law_is_int.f sc__law_is_int rfl (sh__law_is_int C) fun cdv A' outer s H E hr hG =>
    (dss_one (ds_ret (de_and (de_isi "int" (by decide) rfl T.z_isinstance rfl T.z_int (by decide +kernel) (do_of (dv 0))) (de_and (de_not (de_isi "bool" (by decide) rfl T.z_isinstance rfl T.z_bool (by decide +kernel) (do_of (dv 0)))) (de_bone (de_ch op_le op_le (do_of (dv 1)) (do_of (dv 0)) (do_of (dv 2))))))))

theorem ok__law_refused (T : Txt K mg base P C A) (j : Nat) : FnC P w K mg base j A._law_refused.1 A._law_refused.2 "_law_work" "_law_refused" s__law_refused ["_law_work", "_law_caught", "error", "_law_marks"] (tt__law_refused C) :=
  Fun.cok T._law_refused.f sc__law_refused (sh__law_refused C) fun cdv A' outer s H E c cl hr hG hact =>
    (dss_cons (ds_set 1 sc__law_refused.nd de_non)
      (dss_cons (ds_try sc__law_refused.nd (takes_of rfl rfl rfl rfl) (fun _ _ _ tk _ => (dss_one (ds_expr (hact _ _ _ _ _ tk)))) (.named (i := 2) ⟨rfl, by decide, .inl T.g_FlashError⟩ (tb_cons T.xm_BadGroups_FlashError (tb_cons T.xm_BadHalf_FlashError (tb_cons T.xm_BadHalves_FlashError (tb_cons T.xm_BadLook_FlashError (tb_cons T.xm_BadNumber_FlashError (tb_cons T.xm_BadSpeed_FlashError (tb_cons T.xm_BadStretch_FlashError (tb_cons T.xm_Clash_FlashError (tb_cons T.xm_TooGreat_FlashError tb_nil))))))))) rfl rfl (fun _ _ => (dss_one (ds_set 1 sc__law_refused.nd (dv 2)))) PClOk.nil))
      (dss_cons (ds_if (dt_is (do_of (dv 1)) (do_of de_non)) (dss_one (ds_ret de_non)) dss_nil)
      (dss_cons (ds_if (dt_val (de_isE (tb := inTe [(C.BadGroups, false), (C.BadHalf, false), (C.BadHalves, true), (C.BadLook, false), (C.BadNumber, false), (C.BadSpeed, false), (C.BadStretch, false), (C.Clash, false), (C.TooGreat, false)]) (te_cons T.ec_BadGroups T.xi_BadGroups_BadHalves (te_cons T.ec_BadHalf T.xi_BadHalf_BadHalves (te_cons T.ec_BadHalves T.xi_BadHalves_BadHalves (te_cons T.ec_BadLook T.xi_BadLook_BadHalves (te_cons T.ec_BadNumber T.xi_BadNumber_BadHalves (te_cons T.ec_BadSpeed T.xi_BadSpeed_BadHalves (te_cons T.ec_BadStretch T.xi_BadStretch_BadHalves (te_cons T.ec_Clash T.xi_Clash_BadHalves (te_cons T.ec_TooGreat T.xi_TooGreat_BadHalves te_nil))))))))) T.et_BadHalves rfl T.z_isinstance rfl T.g_BadHalves (dv 1))) (dss_one (ds_ret (de_tup (da_cons de_str (da_cons (de_xf (T := inTf [C.BadGroups, C.BadHalves, C.BadLook]) (tf_cons T.ec_BadGroups T.xf_BadGroups_at (tf_cons T.ec_BadHalves T.xf_BadHalves_at (tf_cons T.ec_BadLook T.xf_BadLook_at tf_nil))) (dv 1)) da_nil))))) dss_nil)
      (dss_cons (ds_if (dt_val (de_isE (tb := inTe [(C.BadGroups, false), (C.BadHalf, false), (C.BadHalves, false), (C.BadLook, true), (C.BadNumber, false), (C.BadSpeed, false), (C.BadStretch, false), (C.Clash, false), (C.TooGreat, false)]) (te_cons T.ec_BadGroups T.xi_BadGroups_BadLook (te_cons T.ec_BadHalf T.xi_BadHalf_BadLook (te_cons T.ec_BadHalves T.xi_BadHalves_BadLook (te_cons T.ec_BadLook T.xi_BadLook_BadLook (te_cons T.ec_BadNumber T.xi_BadNumber_BadLook (te_cons T.ec_BadSpeed T.xi_BadSpeed_BadLook (te_cons T.ec_BadStretch T.xi_BadStretch_BadLook (te_cons T.ec_Clash T.xi_Clash_BadLook (te_cons T.ec_TooGreat T.xi_TooGreat_BadLook te_nil))))))))) T.et_BadLook rfl T.z_isinstance rfl T.g_BadLook (dv 1))) (dss_one (ds_ret (de_tup (da_cons de_str (da_cons (de_xf (T := inTf [C.BadGroups, C.BadHalves, C.BadLook]) (tf_cons T.ec_BadGroups T.xf_BadGroups_at (tf_cons T.ec_BadHalves T.xf_BadHalves_at (tf_cons T.ec_BadLook T.xf_BadLook_at tf_nil))) (dv 1)) da_nil))))) dss_nil)
      (dss_cons (ds_if (dt_val (de_isE (tb := inTe [(C.BadGroups, true), (C.BadHalf, false), (C.BadHalves, false), (C.BadLook, false), (C.BadNumber, false), (C.BadSpeed, false), (C.BadStretch, false), (C.Clash, false), (C.TooGreat, false)]) (te_cons T.ec_BadGroups T.xi_BadGroups_BadGroups (te_cons T.ec_BadHalf T.xi_BadHalf_BadGroups (te_cons T.ec_BadHalves T.xi_BadHalves_BadGroups (te_cons T.ec_BadLook T.xi_BadLook_BadGroups (te_cons T.ec_BadNumber T.xi_BadNumber_BadGroups (te_cons T.ec_BadSpeed T.xi_BadSpeed_BadGroups (te_cons T.ec_BadStretch T.xi_BadStretch_BadGroups (te_cons T.ec_Clash T.xi_Clash_BadGroups (te_cons T.ec_TooGreat T.xi_TooGreat_BadGroups te_nil))))))))) T.et_BadGroups rfl T.z_isinstance rfl T.g_BadGroups (dv 1))) (dss_one (ds_ret (de_tup (da_cons de_str (da_cons (de_xf (T := inTf [C.BadGroups, C.BadHalves, C.BadLook]) (tf_cons T.ec_BadGroups T.xf_BadGroups_at (tf_cons T.ec_BadHalves T.xf_BadHalves_at (tf_cons T.ec_BadLook T.xf_BadLook_at tf_nil))) (dv 1)) da_nil))))) dss_nil)
      (dss_cons (ds_if (dt_val (de_isE (tb := inTe [(C.BadGroups, false), (C.BadHalf, false), (C.BadHalves, false), (C.BadLook, false), (C.BadNumber, false), (C.BadSpeed, false), (C.BadStretch, false), (C.Clash, true), (C.TooGreat, false)]) (te_cons T.ec_BadGroups T.xi_BadGroups_Clash (te_cons T.ec_BadHalf T.xi_BadHalf_Clash (te_cons T.ec_BadHalves T.xi_BadHalves_Clash (te_cons T.ec_BadLook T.xi_BadLook_Clash (te_cons T.ec_BadNumber T.xi_BadNumber_Clash (te_cons T.ec_BadSpeed T.xi_BadSpeed_Clash (te_cons T.ec_BadStretch T.xi_BadStretch_Clash (te_cons T.ec_Clash T.xi_Clash_Clash (te_cons T.ec_TooGreat T.xi_TooGreat_Clash te_nil))))))))) T.et_Clash rfl T.z_isinstance rfl T.g_Clash (dv 1))) (dss_one (ds_ret (de_tup (da_cons de_str (da_cons de_non da_nil))))) dss_nil)
      (dss_cons (ds_if (dt_val (de_isE (tb := inTe [(C.BadGroups, false), (C.BadHalf, false), (C.BadHalves, false), (C.BadLook, false), (C.BadNumber, false), (C.BadSpeed, false), (C.BadStretch, false), (C.Clash, false), (C.TooGreat, true)]) (te_cons T.ec_BadGroups T.xi_BadGroups_TooGreat (te_cons T.ec_BadHalf T.xi_BadHalf_TooGreat (te_cons T.ec_BadHalves T.xi_BadHalves_TooGreat (te_cons T.ec_BadLook T.xi_BadLook_TooGreat (te_cons T.ec_BadNumber T.xi_BadNumber_TooGreat (te_cons T.ec_BadSpeed T.xi_BadSpeed_TooGreat (te_cons T.ec_BadStretch T.xi_BadStretch_TooGreat (te_cons T.ec_Clash T.xi_Clash_TooGreat (te_cons T.ec_TooGreat T.xi_TooGreat_TooGreat te_nil))))))))) T.et_TooGreat rfl T.z_isinstance rfl T.g_TooGreat (dv 1))) (dss_one (ds_ret (de_tup (da_cons de_str (da_cons (de_xf (T := inTf [C.TooGreat]) (tf_cons T.ec_TooGreat T.xf_TooGreat_most tf_nil) (dv 1)) da_nil))))) dss_nil)
      (dss_cons (ds_setO 3 sc__law_refused.nd (dl_lst (da_cons (de_isE (tb := inTe [(C.BadGroups, false), (C.BadHalf, false), (C.BadHalves, false), (C.BadLook, false), (C.BadNumber, false), (C.BadSpeed, true), (C.BadStretch, false), (C.Clash, false), (C.TooGreat, false)]) (te_cons T.ec_BadGroups T.xi_BadGroups_BadSpeed (te_cons T.ec_BadHalf T.xi_BadHalf_BadSpeed (te_cons T.ec_BadHalves T.xi_BadHalves_BadSpeed (te_cons T.ec_BadLook T.xi_BadLook_BadSpeed (te_cons T.ec_BadNumber T.xi_BadNumber_BadSpeed (te_cons T.ec_BadSpeed T.xi_BadSpeed_BadSpeed (te_cons T.ec_BadStretch T.xi_BadStretch_BadSpeed (te_cons T.ec_Clash T.xi_Clash_BadSpeed (te_cons T.ec_TooGreat T.xi_TooGreat_BadSpeed te_nil))))))))) T.et_BadSpeed rfl T.z_isinstance rfl T.g_BadSpeed (dv 1)) (da_cons (de_isE (tb := inTe [(C.BadGroups, false), (C.BadHalf, true), (C.BadHalves, false), (C.BadLook, false), (C.BadNumber, false), (C.BadSpeed, false), (C.BadStretch, false), (C.Clash, false), (C.TooGreat, false)]) (te_cons T.ec_BadGroups T.xi_BadGroups_BadHalf (te_cons T.ec_BadHalf T.xi_BadHalf_BadHalf (te_cons T.ec_BadHalves T.xi_BadHalves_BadHalf (te_cons T.ec_BadLook T.xi_BadLook_BadHalf (te_cons T.ec_BadNumber T.xi_BadNumber_BadHalf (te_cons T.ec_BadSpeed T.xi_BadSpeed_BadHalf (te_cons T.ec_BadStretch T.xi_BadStretch_BadHalf (te_cons T.ec_Clash T.xi_Clash_BadHalf (te_cons T.ec_TooGreat T.xi_TooGreat_BadHalf te_nil))))))))) T.et_BadHalf rfl T.z_isinstance rfl T.g_BadHalf (dv 1)) (da_cons (de_isE (tb := inTe [(C.BadGroups, false), (C.BadHalf, false), (C.BadHalves, false), (C.BadLook, false), (C.BadNumber, true), (C.BadSpeed, false), (C.BadStretch, false), (C.Clash, false), (C.TooGreat, false)]) (te_cons T.ec_BadGroups T.xi_BadGroups_BadNumber (te_cons T.ec_BadHalf T.xi_BadHalf_BadNumber (te_cons T.ec_BadHalves T.xi_BadHalves_BadNumber (te_cons T.ec_BadLook T.xi_BadLook_BadNumber (te_cons T.ec_BadNumber T.xi_BadNumber_BadNumber (te_cons T.ec_BadSpeed T.xi_BadSpeed_BadNumber (te_cons T.ec_BadStretch T.xi_BadStretch_BadNumber (te_cons T.ec_Clash T.xi_Clash_BadNumber (te_cons T.ec_TooGreat T.xi_TooGreat_BadNumber te_nil))))))))) T.et_BadNumber rfl T.z_isinstance rfl T.g_BadNumber (dv 1)) da_nil)))))
      (dss_cons (ds_app 3 (de_isE (tb := inTe [(C.BadGroups, false), (C.BadHalf, false), (C.BadHalves, false), (C.BadLook, false), (C.BadNumber, false), (C.BadSpeed, false), (C.BadStretch, true), (C.Clash, false), (C.TooGreat, false)]) (te_cons T.ec_BadGroups T.xi_BadGroups_BadStretch (te_cons T.ec_BadHalf T.xi_BadHalf_BadStretch (te_cons T.ec_BadHalves T.xi_BadHalves_BadStretch (te_cons T.ec_BadLook T.xi_BadLook_BadStretch (te_cons T.ec_BadNumber T.xi_BadNumber_BadStretch (te_cons T.ec_BadSpeed T.xi_BadSpeed_BadStretch (te_cons T.ec_BadStretch T.xi_BadStretch_BadStretch (te_cons T.ec_Clash T.xi_Clash_BadStretch (te_cons T.ec_TooGreat T.xi_TooGreat_BadStretch te_nil))))))))) T.et_BadStretch rfl T.z_isinstance rfl T.g_BadStretch (dv 1)))
      (dss_one (ds_ret (de_tup (da_cons (de_ife (dt_eq hr.units (do_of (de_cntB (hu1 hr) (dn 3) (do_of de_bl))) (do_of de_int)) (de_ix (do_of (de_l (dl_lst (da_cons de_str (da_cons de_str (da_cons de_str (da_cons de_str da_nil))))))) (do_of (de_idxB (hu1 hr) (dn 3) (do_of de_bl)))) de_str) (da_cons de_non da_nil)))))))))))))))

theorem ok_is_between (T : Txt K mg base P C A) : FnG P w K mg base 2 A.is_between.1 A.is_between.2 ["thing", "low", "high"] (toSp K 3 (sp_is_between C)) :=
  Fun.pok T.is_between.f sc_is_between rfl (sh_is_between C) fun cdv A' outer s H E hr hG =>
    (dss_one (ds_ret (de_and (de_call (ok_is_integer T) rfl (fun _ _ _ _ h => ar1_len h) (hr.mono (by decide)) hG rfl T.is_integer.g T.is_integer.f.kp T.is_integer.b (takes_of rfl rfl rfl rfl) (da_cons (dv 0) da_nil)) (de_bone (de_ch op_le op_le (do_of (dv 1)) (do_of (dv 0)) (do_of (dv 2)))))))

theorem ok_multiple (T : Txt K mg base P C A) : FnG P w K mg base 2 A.multiple.1 A.multiple.2 ["numbers"] (toSp K 1 (sp_multiple C)) :=
  Fun.pok T.multiple.f sc_multiple rfl (sh_multiple C) fun cdv A' outer s H E hr hG =>
    (dss_cons (ds_set 1 sc_multiple.nd de_int)
      (dss_cons (ds_for (passes_of rfl) rfl (di_any (dv 0)) (dg_nm 2 sc_multiple.nd) (dss_one (ds_set 1 sc_multiple.nd (de_mul (do_of (de_div (do_of (dv 1)) (do_of (de_call (ok_divisor T) rfl (fun _ _ _ _ h => ar2_len h) (hr.mono (by decide)) hG rfl T.divisor.g T.divisor.f.kp T.divisor.b (takes_of rfl rfl rfl rfl) (da_cons (dv 1) (da_cons (dv 2) da_nil)))))) (do_of (dv 2))))))
      (dss_one (ds_ret (dv 1)))))

theorem ok__law_pick (T : Txt K mg base P C A) : FnG P w K mg base 2 A._law_pick.1 A._law_pick.2 ["_law_draw", "_law_some"] (toSp K 2 sp_pick) :=
  Fun.pok T._law_pick.f sc__law_pick rfl sh_pick fun cdv A' outer s H E hr hG =>
    (dss_one (ds_ret (de_ix (do_of (dv 1)) (do_of (de_call (ok__law_take T) rfl (fun _ _ _ _ h => ar2_len h) (hr.mono (by decide)) hG rfl T._law_take.g T._law_take.f.kp T._law_take.b (takes_of rfl rfl rfl rfl) (da_cons (dv 0) (da_cons (de_len rfl T.z_len (do_of (dv 1))) da_nil)))))))

theorem ok__law_wrong (T : Txt K mg base P C A) : FnG P w K mg base 2 A._law_wrong.1 A._law_wrong.2 ["_law_matter"] (toSp K 1 (sp__law_wrong C)) :=
  Fun.pok T._law_wrong.f sc__law_wrong rfl (sh__law_wrong C) fun cdv A' outer s H E hr hG =>
    (dss_cons (ds_if (DW.dt (dw_or (dt_not (dt_val (de_isi2 "list" "tuple" (by decide) (by decide) rfl T.z_isinstance rfl T.z_list (by decide +kernel) rfl T.z_tuple (by decide +kernel) (do_of (dv 0))))) (dw_or1 (dt_eq hr.units (do_of (de_len rfl T.z_len (do_of (dv 0)))) (do_of de_int))))) (dss_one (ds_ret de_int)) dss_nil)
      (dss_cons (ds_for (passes_of rfl) rfl (di_enumA rfl T.z_enumerate (dv 0)) (dg_tup rfl (dgs_cons (dg_nm 1 sc__law_wrong.nd) (dgs_cons (dg_nm 2 sc__law_wrong.nd) dgs_nil))) (dss_one (ds_if (DW.dt (dw_or (dt_eq hr.units (do_of (dv 1)) (do_of de_int)) (dw_or1 (dt_not (dt_val (de_call (ok__law_is_int T) rfl (fun _ _ _ _ h => ar3_len h) (hr.mono (by decide)) hG rfl T._law_is_int.g T._law_is_int.f.kp T._law_is_int.b (takes_of rfl rfl rfl rfl) (da_cons (dv 2) (da_cons de_int (da_cons de_int da_nil))))))))) (dss_one (ds_ret (dv 1))) dss_nil)))
      (dss_one (ds_ret de_non))))

theorem ok_is_half (T : Txt K mg base P C A) : FnG P w K mg base 3 A.is_half.1 A.is_half.2 ["thing"] (toSp K 1 (sp_is_half C)) :=
  Fun.pok T.is_half.f sc_is_half rfl (sh_is_half C) fun cdv A' outer s H E hr hG =>
    (dss_one (ds_ret (de_call (ok_is_between T) rfl (fun _ _ _ _ h => ar3_len h) (hr.mono (by decide)) hG rfl T.is_between.g T.is_between.f.kp T.is_between.b (takes_of rfl rfl rfl rfl) (da_cons (dv 0) (da_cons de_int (da_cons (de_gintE rfl T.c_GREATEST_HALF) da_nil))))))

theorem ok_splits (T : Txt K mg base P C A) : FnG P w K mg base 3 A.splits.1 A.splits.2 ["halves"] (toSp K 1 (sp_splits C)) :=
  Fun.pok T.splits.f sc_splits rfl (sh_splits C) fun cdv A' outer s H E hr hG =>
    (dss_cons (ds_setO 1 sc_splits.nd (dl_lst da_nil))
      (dss_cons (ds_for (passes_of rfl) rfl (di_r2 rfl T.z_range de_int (de_sub (do_of (de_shl (do_of de_int) (do_of (de_len rfl T.z_len (do_of (dv 0)))))) (do_of de_int))) (dg_nm 2 sc_splits.nd) (dss_cons (ds_setC 3 rfl sc_splits.nd (sw_true rfl rfl rfl (by decide +kernel)) (own := [("at", 5), ("half", 6)]) (di_enumA rfl T.z_enumerate (dv 0)) (blkOk_by rfl) (fun _ _ _ _ _ => (dg_tup rfl (dgs_cons (dg_nm 5 sc_splits.nd) (dgs_cons (dg_nm 6 sc_splits.nd) dgs_nil)))) (fun _ _ _ _ _ => (dts_one (dt_eq hr.units (do_of (de_mod (do_of (de_shr (do_of (dv 2)) (do_of (dv 5)))) (do_of de_int))) (do_of de_int)))) (fun _ _ _ _ _ => (dv 6)))
      (dss_cons (ds_setC 4 rfl sc_splits.nd (sw_true rfl rfl rfl (by decide +kernel)) (own := [("at", 5), ("half", 6)]) (di_enumA rfl T.z_enumerate (dv 0)) (blkOk_by rfl) (fun _ _ _ _ _ => (dg_tup rfl (dgs_cons (dg_nm 5 sc_splits.nd) (dgs_cons (dg_nm 6 sc_splits.nd) dgs_nil)))) (fun _ _ _ _ _ => (dts_one (dt_eq hr.units (do_of (de_mod (do_of (de_shr (do_of (dv 2)) (do_of (dv 5)))) (do_of de_int))) (do_of de_int)))) (fun _ _ _ _ _ => (dv 6)))
      (dss_one (ds_app 1 (de_tup (da_cons (de_call (ok_multiple T) rfl (fun _ _ _ _ h => ar1_len h) (hr.mono (by decide)) hG rfl T.multiple.g T.multiple.f.kp T.multiple.b (takes_of rfl rfl rfl rfl) (da_cons (dv 3) da_nil)) (da_cons (de_call (ok_multiple T) rfl (fun _ _ _ _ h => ar1_len h) (hr.mono (by decide)) hG rfl T.multiple.g T.multiple.f.kp T.multiple.b (takes_of rfl rfl rfl rfl) (da_cons (dv 4) da_nil)) da_nil))))))))
      (dss_one (ds_frz 1 (ds_ret (dv 1))))))

theorem ok__law_odd (T : Txt K mg base P C A) : FnG P w K mg base 3 A._law_odd.1 A._law_odd.2 ["_law_draw"] (toSp K 1 (sp__law_odd C)) :=
  Fun.pok T._law_odd.f sc__law_odd rfl (sh__law_odd C) fun cdv A' outer s H E hr hG =>
    (dss_cons (ds_set 1 sc__law_odd.nd (de_l (dl_lst (da_cons de_non (da_cons de_bl (da_cons de_bl (da_cons de_int (da_cons de_int (da_cons (de_neg (do_of de_int)) (da_cons de_int (da_cons (de_pow (do_of de_int) (do_of de_int)) (da_cons de_str (da_cons de_str (da_cons de_str (da_cons de_str (da_cons de_str (da_cons (de_tup da_nil) (da_cons (de_l (dl_lst da_nil)) (da_cons de_dic0 (da_cons (de_tup (da_cons de_str da_nil)) (da_cons (de_l (dl_lst (da_cons de_str da_nil))) da_nil)))))))))))))))))))))
      (dss_one (ds_ret (de_call (ok__law_pick T) rfl (fun _ _ _ _ h => ar2_len h) (hr.mono (by decide)) hG rfl T._law_pick.g T._law_pick.f.kp T._law_pick.b (takes_of rfl rfl rfl rfl) (da_cons (dv 0) (da_cons (dv 1) da_nil))))))

theorem ok_need_halves (T : Txt K mg base P C A) : FnG P w K mg base 4 A.need_halves.1 A.need_halves.2 ["halves"] (toSp K 1 (sp_need_halvesX C)) :=
  Fun.pok T.need_halves.f sc_need_halves rfl (sh_need_halvesX C) fun cdv A' outer s H E hr hG =>
    (dss_cons (ds_if (DW.dt (dw_or (dt_not (dt_val (de_isi2 "list" "tuple" (by decide) (by decide) rfl T.z_isinstance rfl T.z_list (by decide +kernel) rfl T.z_tuple (by decide +kernel) (do_of (dv 0))))) (dw_or1 (dt_eq hr.units (do_of (de_len rfl T.z_len (do_of (dv 0)))) (do_of de_int))))) (dss_one (ds_raiseA (k := 0) rfl (takes_of rfl rfl rfl rfl) T.xa_BadHalves (hr.mono (by decide)) rfl de_int)) dss_nil)
      (dss_one (ds_for (passes_of rfl) rfl (di_enumA rfl T.z_enumerate (dv 0)) (dg_tup rfl (dgs_cons (dg_nm 1 sc_need_halves.nd) (dgs_cons (dg_nm 2 sc_need_halves.nd) dgs_nil))) (dss_one (ds_if (DW.dt (dw_or (dt_eq hr.units (do_of (dv 1)) (do_of (de_gintE rfl T.c_MOST_HALVES))) (dw_or1 (dt_not (dt_val (de_call (ok_is_half T) rfl (fun _ _ _ _ h => ar1_len h) (hr.mono (by decide)) hG rfl T.is_half.g T.is_half.f.kp T.is_half.b (takes_of rfl rfl rfl rfl) (da_cons (dv 2) da_nil))))))) (dss_one (ds_raiseA (k := 0) rfl (takes_of rfl rfl rfl rfl) T.xa_BadHalves (hr.mono (by decide)) rfl (dv 1))) dss_nil)))))

theorem ok_pair_in (T : Txt K mg base P C A) : FnG P w K mg base 4 A.pair_in.1 A.pair_in.2 ["halves", "low", "high"] (toSp K 3 (sp_pair_in C)) :=
  Fun.pok T.pair_in.f sc_pair_in rfl (sh_pair_in C) fun cdv A' outer s H E hr hG =>
    (dss_cons (ds_set 3 sc_pair_in.nd (de_call (ok_multiple T) rfl (fun _ _ _ _ h => ar1_len h) (hr.mono (by decide)) hG rfl T.multiple.g T.multiple.f.kp T.multiple.b (takes_of rfl rfl rfl rfl) (da_cons (dv 0) da_nil)))
      (dss_cons (ds_if (dt_ge (do_of (de_sub (do_of (dv 2)) (do_of (dv 1)))) (do_of (de_mul (do_of de_int) (do_of (dv 3))))) (dss_one (ds_ret (de_tup (da_cons (dv 1) (da_cons (de_add (do_of (dv 1)) (do_of (de_mul (do_of de_int) (do_of (dv 3))))) da_nil))))) dss_nil)
      (dss_cons (ds_set 4 sc_pair_in.nd (de_mul (do_of (de_add (do_of (de_div (do_of (dv 1)) (do_of (dv 3)))) (do_of de_int))) (do_of (dv 3))))
      (dss_cons (ds_if (dt_lt (do_of (dv 4)) (do_of (dv 2))) (dss_one (ds_ret (de_tup (da_cons (de_sub (do_of (dv 4)) (do_of de_int)) (da_cons (de_add (do_of (dv 4)) (do_of de_int)) da_nil))))) dss_nil)
      (dss_cons (ds_for (passes_of rfl) rfl (di_any (de_call (ok_splits T) rfl (fun _ _ _ _ h => ar1_len h) (hr.mono (by decide)) hG rfl T.splits.g T.splits.f.kp T.splits.b (takes_of rfl rfl rfl rfl) (da_cons (dv 0) da_nil))) (dg_tup rfl (dgs_cons (dg_nm 5 sc_pair_in.nd) (dgs_cons (dg_nm 6 sc_pair_in.nd) dgs_nil))) (dss_cons (ds_set 7 sc_pair_in.nd (de_mul (do_of (de_neg (do_of (de_div (do_of (de_neg (do_of (de_add (do_of (dv 1)) (do_of (dv 5)))))) (do_of (dv 6)))))) (do_of (dv 6))))
      (dss_one (ds_if (dt_le (do_of (dv 7)) (do_of (de_sub (do_of (dv 2)) (do_of (dv 5))))) (dss_one (ds_ret (de_tup (da_cons (de_sub (do_of (dv 7)) (do_of (dv 5))) (da_cons (de_add (do_of (dv 7)) (do_of (dv 5))) da_nil))))) dss_nil))))
      (dss_one (ds_ret de_non)))))))

theorem ok_reach (T : Txt K mg base P C A) : FnG P w K mg base 5 A.reach.1 A.reach.2 ["halves"] (toSp K 1 (sp_reachX C)) :=
  Fun.pok T.reach.f sc_reach rfl (sh_reachX C) fun cdv A' outer s H E hr hG =>
    (dss_cons (ds_expr (de_call (ok_need_halves T) rfl (fun _ _ _ _ h => ar1_len h) (hr.mono (by decide)) hG rfl T.need_halves.g T.need_halves.f.kp T.need_halves.b (takes_of rfl rfl rfl rfl) (da_cons (dv 0) da_nil)))
      (dss_cons (ds_set 1 sc_reach.nd (de_call (ok_multiple T) rfl (fun _ _ _ _ h => ar1_len h) (hr.mono (by decide)) hG rfl T.multiple.g T.multiple.f.kp T.multiple.b (takes_of rfl rfl rfl rfl) (da_cons (dv 0) da_nil)))
      (dss_cons (ds_setC 2 rfl sc_reach.nd (sw_true rfl rfl rfl (by decide +kernel)) (own := [("one", 3), ("other", 4)]) (di_any (de_call (ok_splits T) rfl (fun _ _ _ _ h => ar1_len h) (hr.mono (by decide)) hG rfl T.splits.g T.splits.f.kp T.splits.b (takes_of rfl rfl rfl rfl) (da_cons (dv 0) da_nil))) (blkOk_by rfl) (fun _ _ _ _ _ => (dg_tup rfl (dgs_cons (dg_nm 3 sc_reach.nd) (dgs_cons (dg_nm 4 sc_reach.nd) dgs_nil)))) (fun _ _ _ _ _ => dts_nil) (fun _ _ _ _ _ => (de_add (do_of (dv 3)) (do_of (dv 4)))))
      (dss_one (ds_ret (de_tup (da_cons (de_min rfl rfl T.z_min (do_of (de_add (do_of (de_l (dl_lst (da_cons (dv 1) da_nil)))) (do_of (dv 2))))) (da_cons (de_all rfl rfl T.z_all (do_of (de_l (dl_comp rfl sc_reach.nd (own := [("number", 5)]) (di_any (dv 2)) (blkOk_by rfl) (fun _ _ _ _ _ => (dg_nm 5 sc_reach.nd)) (fun _ _ _ _ _ => dts_nil) (fun _ _ _ _ _ => (de_gt (do_of (dv 5)) (do_of (dv 1)))))))) da_nil))))))))

theorem ok_alike_pair (T : Txt K mg base P C A) : FnG P w K mg base 5 A.alike_pair.1 A.alike_pair.2 ["halves", "low", "high"] (toSp K 3 (sp_alike_pairX C)) :=
  Fun.pok T.alike_pair.f sc_alike_pair rfl (sh_alike_pairX C) fun cdv A' outer s H E hr hG =>
    (dss_cons (ds_expr (de_call (ok_need_halves T) rfl (fun _ _ _ _ h => ar1_len h) (hr.mono (by decide)) hG rfl T.need_halves.g T.need_halves.f.kp T.need_halves.b (takes_of rfl rfl rfl rfl) (da_cons (dv 0) da_nil)))
      (dss_cons (ds_if (DW.dt (dw_or (dt_not (dt_val (de_call (ok_is_between T) rfl (fun _ _ _ _ h => ar3_len h) (hr.mono (by decide)) hG rfl T.is_between.g T.is_between.f.kp T.is_between.b (takes_of rfl rfl rfl rfl) (da_cons (dv 1) (da_cons de_int (da_cons (de_gintE rfl T.c_GREATEST) da_nil)))))) (dw_or1 (dt_not (dt_val (de_call (ok_is_between T) rfl (fun _ _ _ _ h => ar3_len h) (hr.mono (by decide)) hG rfl T.is_between.g T.is_between.f.kp T.is_between.b (takes_of rfl rfl rfl rfl) (da_cons (dv 2) (da_cons (dv 1) (da_cons (de_gintE rfl T.c_GREATEST) da_nil))))))))) (dss_one (ds_raise rfl (takes_of rfl rfl rfl rfl) T.x_BadStretch rfl)) dss_nil)
      (dss_cons (ds_set 3 sc_alike_pair.nd (de_call (ok_pair_in T) rfl (fun _ _ _ _ h => ar3_len h) (hr.mono (by decide)) hG rfl T.pair_in.g T.pair_in.f.kp T.pair_in.b (takes_of rfl rfl rfl rfl) (da_cons (dv 0) (da_cons (dv 1) (da_cons (dv 2) da_nil)))))
      (dss_one (ds_ret (de_ife (dt_is (do_of (dv 3)) (do_of de_non)) de_non (de_tup (da_cons (de_tup (da_cons (de_ix (do_of (dv 3)) (do_of de_int)) (da_cons de_int da_nil))) (da_cons (de_tup (da_cons (de_ix (do_of (dv 3)) (do_of de_int)) (da_cons de_int da_nil))) da_nil)))))))))

theorem ok_least_choices (T : Txt K mg base P C A) : FnG P w K mg base 5 A.least_choices.1 A.least_choices.2 ["halves", "high"] (toSp K 2 (sp_least_choicesX C)) :=
  Fun.pok T.least_choices.f sc_least_choices rfl (sh_least_choicesX C) fun cdv A' outer s H E hr hG =>
    (dss_cons (ds_expr (de_call (ok_need_halves T) rfl (fun _ _ _ _ h => ar1_len h) (hr.mono (by decide)) hG rfl T.need_halves.g T.need_halves.f.kp T.need_halves.b (takes_of rfl rfl rfl rfl) (da_cons (dv 0) da_nil)))
      (dss_cons (ds_if (dt_not (dt_val (de_call (ok_is_between T) rfl (fun _ _ _ _ h => ar3_len h) (hr.mono (by decide)) hG rfl T.is_between.g T.is_between.f.kp T.is_between.b (takes_of rfl rfl rfl rfl) (da_cons (dv 1) (da_cons de_int (da_cons (de_gintE rfl T.c_GREATEST) da_nil)))))) (dss_one (ds_raise rfl (takes_of rfl rfl rfl rfl) T.x_BadNumber rfl)) dss_nil)
      (dss_cons (ds_set 2 sc_least_choices.nd (de_call (ok_all_choices T) rfl (fun _ _ _ _ h => ar1_len h) (hr.mono (by decide)) hG rfl T.all_choices.g T.all_choices.f.kp T.all_choices.b (takes_of rfl rfl rfl rfl) (da_cons (de_len rfl T.z_len (do_of (dv 0))) da_nil)))
      (dss_one (ds_ret (de_call (ok_least_ones T) rfl (fun _ _ _ _ h => ar1_len h) (hr.mono (by decide)) hG rfl T.least_ones.g T.least_ones.f.kp T.least_ones.b (takes_of rfl rfl rfl rfl) (da_cons (de_l (dl_comp rfl sc_least_choices.nd (own := [("choice", 3)]) (di_any (dv 2)) (blkOk_by rfl) (fun _ _ _ _ _ => (dg_nm 3 sc_least_choices.nd)) (fun _ _ _ _ _ => (dts_one (dt_is (do_of (de_call (ok_pair_in T) rfl (fun _ _ _ _ h => ar3_len h) (hr.mono (by decide)) hG rfl T.pair_in.g T.pair_in.f.kp T.pair_in.b takes0 (da_cons (de_l (dl_comp rfl sc_least_choices.nd (own := [("at", 4)]) (di_any (dv 3)) (blkOk_by rfl) (fun _ _ _ _ _ => (dg_nm 4 sc_least_choices.nd)) (fun _ _ _ _ _ => dts_nil) (fun _ _ _ _ _ => (de_ix (do_of (dv 0)) (do_of (dv 4)))))) (da_cons de_int (da_cons (dv 1) da_nil))))) (do_of de_non)))) (fun _ _ _ _ _ => (dv 3)))) da_nil)))))))

theorem okn__law_bent (T : Txt K mg base P C A) : ∀ n : Nat, FnG P w K mg base (3 + n) A._law_bent.1 A._law_bent.2 ["_law_draw", "_law_matter", "_law_spare"] (toSp K 3 (spn__law_bent C n))
  | 0 => FnG.never
  | n + 1 => Fun.pok T._law_bent.f sc__law_bent rfl (shn__law_bent C n) fun cdv A' outer s H E hr hG =>
    have okn_self := okn__law_bent T n
    (dss_cons (ds_if (DW.dt (dw_or (dt_not (dt_val (de_isi2 "tuple" "list" (by decide) (by decide) rfl T.z_isinstance rfl T.z_tuple (by decide +kernel) rfl T.z_list (by decide +kernel) (do_of (dv 1))))) (dw_or (dt_eq hr.units (do_of (de_len rfl T.z_len (do_of (dv 1)))) (do_of de_int)) (dw_or1 (dt_eq hr.units (do_of (de_call (ok__law_take T) rfl (fun _ _ _ _ h => ar2_len h) (hr.mono (lev_le (by decide))) hG rfl T._law_take.g T._law_take.f.kp T._law_take.b (takes_of rfl rfl rfl rfl) (da_cons (dv 0) (da_cons de_int da_nil)))) (do_of de_int)))))) (dss_cons (ds_if (DW.dt (dw_and (dt_val (de_isi "int" (by decide) rfl T.z_isinstance rfl T.z_int (by decide +kernel) (do_of (dv 1)))) (dw_and (dt_not (dt_val (de_isi "bool" (by decide) rfl T.z_isinstance rfl T.z_bool (by decide +kernel) (do_of (dv 1))))) (dw_and1 (dt_eq hr.units (do_of (de_call (ok__law_take T) rfl (fun _ _ _ _ h => ar2_len h) (hr.mono (lev_le (by decide))) hG rfl T._law_take.g T._law_take.f.kp T._law_take.b (takes_of rfl rfl rfl rfl) (da_cons (dv 0) (da_cons de_int da_nil)))) (do_of de_int)))))) (dss_one (ds_ret (de_add (do_of (dv 1)) (do_of (de_call (ok__law_pick T) rfl (fun _ _ _ _ h => ar2_len h) (hr.mono (lev_le (by decide))) hG rfl T._law_pick.g T._law_pick.f.kp T._law_pick.b (takes_of rfl rfl rfl rfl) (da_cons (dv 0) (da_cons (de_l (dl_lst (da_cons de_int (da_cons (de_neg (do_of de_int)) (da_cons de_int da_nil))))) da_nil))))))) dss_nil)
      (dss_one (ds_ret (de_call (ok__law_pick T) rfl (fun _ _ _ _ h => ar2_len h) (hr.mono (lev_le (by decide))) hG rfl T._law_pick.g T._law_pick.f.kp T._law_pick.b (takes_of rfl rfl rfl rfl) (da_cons (dv 0) (da_cons (de_add (do_of (dv 2)) (do_of (de_l (dl_lst (da_cons (de_call (ok__law_odd T) rfl (fun _ _ _ _ h => ar1_len h) (hr.mono (lev_le (by decide))) hG rfl T._law_odd.g T._law_odd.f.kp T._law_odd.b (takes_of rfl rfl rfl rfl) (da_cons (dv 0) da_nil)) da_nil))))) da_nil)))))) dss_nil)
      (dss_cons (ds_par3Z 3 4 5 rfl sc__law_bent.nd (de_call (ok__law_take T) rfl (fun _ _ _ _ h => ar2_len h) (hr.mono (lev_le (by decide))) hG rfl T._law_take.g T._law_take.f.kp T._law_take.b (takes_of rfl rfl rfl rfl) (da_cons (dv 0) (da_cons (de_len rfl T.z_len (do_of (dv 1))) da_nil))) (de_call (ok__law_take T) rfl (fun _ _ _ _ h => ar2_len h) (hr.mono (lev_le (by decide))) hG rfl T._law_take.g T._law_take.f.kp T._law_take.b (takes_of rfl rfl rfl rfl) (da_cons (dv 0) (da_cons de_int da_nil))) (dl_listc rfl T.z_list (do_of (dv 1))))
      (dss_cons (ds_if (dt_eq hr.units (do_of (dv 4)) (do_of de_int)) (dss_one (ds_popA 5 (dv 3))) (dss_one (ds_if (dt_eq hr.units (do_of (dv 4)) (do_of de_int)) (dss_one (ds_ins 5 (dv 3) (de_ix (dn 5) (do_of (dv 3))))) (dss_one (ds_if (dt_eq hr.units (do_of (dv 4)) (do_of de_int)) (dss_cons (ds_set 6 sc__law_bent.nd (de_sl (dn 5) (dp_pt (dv 3)) (dp_pt (de_add (do_of (dv 3)) (do_of de_int)))))
      (dss_one (ds_setO 5 sc__law_bent.nd (dl_cat (do_of (de_add (do_of (de_sl (dn 5) dp_no (dp_pt (dv 3)))) (do_of (de_l (dl_rev (do_of (dv 6))))))) (do_of (de_sl (dn 5) (dp_pt (de_add (do_of (dv 3)) (do_of de_int))) dp_no)))))) (dss_one (ds_if (dt_eq hr.units (do_of (dv 4)) (do_of de_int)) (dss_one (ds_ins 5 (dv 3) (de_call (ok__law_pick T) rfl (fun _ _ _ _ h => ar2_len h) (hr.mono (lev_le (by decide))) hG rfl T._law_pick.g T._law_pick.f.kp T._law_pick.b (takes_of rfl rfl rfl rfl) (da_cons (dv 0) (da_cons (de_add (do_of (dv 2)) (do_of (de_l (dl_lst (da_cons (de_call (ok__law_odd T) rfl (fun _ _ _ _ h => ar1_len h) (hr.mono (lev_le (by decide))) hG rfl T._law_odd.g T._law_odd.f.kp T._law_odd.b (takes_of rfl rfl rfl rfl) (da_cons (dv 0) da_nil)) da_nil))))) da_nil))))) (dss_one (ds_if (DW.dt (dw_and (dt_eq hr.units (do_of (dv 4)) (do_of de_int)) (dw_and1 (dt_eq hr.units (do_of (de_call (ok__law_take T) rfl (fun _ _ _ _ h => ar2_len h) (hr.mono (lev_le (by decide))) hG rfl T._law_take.g T._law_take.f.kp T._law_take.b (takes_of rfl rfl rfl rfl) (da_cons (dv 0) (da_cons de_int da_nil)))) (do_of de_int))))) (dss_one (ds_frz 5 (ds_ret (de_ife (dt_val (de_isi "tuple" (by decide) rfl T.z_isinstance rfl T.z_tuple (by decide +kernel) (do_of (dv 1)))) (dv 5) (de_tupc rfl T.z_tuple (dn 5)))))) (dss_one (ds_setA 5 (de_call okn_self rfl (fun ds M q e h => ln__law_bent C n ds M q e h) (hr.mono (Nat.le_refl _)) hG rfl T._law_bent.g T._law_bent.f.kp T._law_bent.b (takes_of rfl rfl rfl rfl) (da_cons (dv 0) (da_cons (de_ix (dn 5) (do_of (dv 3))) (da_cons (dv 2) da_nil)))) (dv 3))))))))))))
      (dss_one (ds_frz 5 (ds_ret (de_ife (dt_val (de_isi "tuple" (by decide) rfl T.z_isinstance rfl T.z_tuple (by decide +kernel) (do_of (dv 1)))) (de_tupc rfl T.z_tuple (dn 5)) (dv 5))))))))

theorem ok__law_bent (T : Txt K mg base P C A) : FnG P w K mg base 11 A._law_bent.1 A._law_bent.2 ["_law_draw", "_law_matter", "_law_spare"] (toSp K 3 (sp__law_bent C)) := okn__law_bent T 8

theorem ok_law (T : Txt K mg base P C A) : FnG P w K mg base 12 A.law.1 A.law.2 ["_law_script"] (toSp K 1 (sp_lawT [(C.tb 0, (("law" : Str) ++ ".<locals>.") ++ "<lambda>")])) :=
  Fun.pokC T.law.f sc_law rfl (sh_law C) fun cdv A' outer s H E hcd hr hG => T.tb_law.elim fun cc hcc =>
    have hTB := hcc.2
    have hcode := hcd.symm.trans hcc.1
    (dss_cons (ds_set 1 sc_law.nd (de_call (ok__law_begin T) rfl (fun _ _ _ _ h => ar1_len h) (hr.mono (by decide)) hG rfl T._law_begin.g T._law_begin.f.kp T._law_begin.b (takes_of rfl rfl rfl rfl) (da_cons (dv 0) da_nil)))
      (dss_cons (ds_for (passes_of rfl) rfl (di_r1 rfl T.z_range (de_add (do_of de_int) (do_of (de_min2 rfl rfl T.z_min (do_of (de_len rfl T.z_len (do_of (dv 0)))) (do_of de_int))))) (dg_nm 2 sc_law.nd) (dss_cons (ds_set 3 sc_law.nd (de_l (dl_comp rfl sc_law.nd (own := [("_law_k", 13)]) (di_r1 rfl T.z_range (de_add (do_of de_int) (do_of (de_call (ok__law_take T) rfl (fun _ _ _ _ h => ar2_len h) (hr.mono (by decide)) hG rfl T._law_take.g T._law_take.f.kp T._law_take.b (takes_of rfl rfl rfl rfl) (da_cons (dv 1) (da_cons de_int da_nil)))))) (blkOk_by rfl) (fun _ _ _ _ _ => (dg_nm 13 sc_law.nd)) (fun _ _ _ _ _ => dts_nil) (fun _ _ _ _ _ => (de_add (do_of de_int) (do_of (de_call (ok__law_take T) rfl (fun _ _ _ _ h => ar2_len h) (hr.mono (by decide)) hG rfl T._law_take.g T._law_take.f.kp T._law_take.b takes0 (da_cons (dv 1) (da_cons (de_call (ok__law_pick T) rfl (fun _ _ _ _ h => ar2_len h) (hr.mono (by decide)) hG rfl T._law_pick.g T._law_pick.f.kp T._law_pick.b takes0 (da_cons (dv 1) (da_cons (de_l (dl_lst (da_cons de_int (da_cons de_int da_nil)))) da_nil))) da_nil)))))))))
      (dss_cons (ds_for (passes_of rfl) rfl (di_r1 rfl T.z_range (de_call (ok__law_take T) rfl (fun _ _ _ _ h => ar2_len h) (hr.mono (by decide)) hG rfl T._law_take.g T._law_take.f.kp T._law_take.b (takes_of rfl rfl rfl rfl) (da_cons (dv 1) (da_cons de_int da_nil)))) (dg_nm 4 sc_law.nd) (dss_one (ds_set 3 sc_law.nd (de_call (ok__law_bent T) rfl (fun ds M q e h => ln__law_bent C 8 ds M q e h) (hr.mono (by decide)) hG rfl T._law_bent.g T._law_bent.f.kp T._law_bent.b (takes_of rfl rfl rfl rfl) (da_cons (dv 1) (da_cons (dv 3) (da_cons (de_l (dl_lst (da_cons de_int (da_cons de_int (da_cons de_int (da_cons de_int (da_cons (de_neg (do_of de_int)) (da_cons de_bl (da_cons (de_tup (da_cons de_int da_nil)) (da_cons de_str da_nil)))))))))) da_nil)))))))
      (dss_cons (ds_par 5 6 rfl sc_law.nd (da_cons (de_call (ok__law_wrong T) rfl (fun _ _ _ _ h => ar1_len h) (hr.mono (by decide)) hG rfl T._law_wrong.g T._law_wrong.f.kp T._law_wrong.b (takes_of rfl rfl rfl rfl) (da_cons (dv 3) da_nil)) (da_cons (de_reprE hG hr.units rfl T.z_repr (do_of (dv 3))) da_nil)))
      (dss_cons (ds_set 7 sc_law.nd (de_ife (dt_is (do_of (dv 5)) (do_of de_non)) de_non (de_tup (da_cons de_str (da_cons (dv 5) da_nil)))))
      (dss_cons (ds_set 8 sc_law.nd (de_l (dl_lst (da_cons de_int (da_cons de_int (da_cons de_int (da_cons (de_sub (do_of (de_pow (do_of de_int) (do_of de_int))) (do_of de_int)) (da_cons (de_pow (do_of de_int) (do_of de_int)) (da_cons (de_neg (do_of de_int)) (da_cons de_bl (da_cons de_non (da_cons de_str (da_cons (de_tup (da_cons de_int (da_cons de_int da_nil))) da_nil)))))))))))))
      (dss_cons (ds_asg (de_tup (da_cons (de_call (ok__law_pick T) rfl (fun _ _ _ _ h => ar2_len h) (hr.mono (by decide)) hG rfl T._law_pick.g T._law_pick.f.kp T._law_pick.b (takes_of rfl rfl rfl rfl) (da_cons (dv 1) (da_cons (dv 8) da_nil))) (da_cons (de_call (ok__law_pick T) rfl (fun _ _ _ _ h => ar2_len h) (hr.mono (by decide)) hG rfl T._law_pick.g T._law_pick.f.kp T._law_pick.b (takes_of rfl rfl rfl rfl) (da_cons (dv 1) (da_cons (dv 8) da_nil))) da_nil))) (dg_tup rfl (dgs_cons (dg_nm 9 sc_law.nd) (dgs_cons (dg_nm 10 sc_law.nd) dgs_nil))))
      (dss_cons (ds_set 11 sc_law.nd (de_and (de_call (ok__law_is_int T) rfl (fun _ _ _ _ h => ar3_len h) (hr.mono (by decide)) hG rfl T._law_is_int.g T._law_is_int.f.kp T._law_is_int.b (takes_of rfl rfl rfl rfl) (da_cons (dv 9) (da_cons de_int (da_cons (de_sub (do_of (de_pow (do_of de_int) (do_of de_int))) (do_of de_int)) da_nil)))) (de_bone (de_call (ok__law_is_int T) rfl (fun _ _ _ _ h => ar3_len h) (hr.mono (by decide)) hG rfl T._law_is_int.g T._law_is_int.f.kp T._law_is_int.b (takes_of rfl rfl rfl rfl) (da_cons (dv 10) (da_cons (dv 9) (da_cons (de_sub (do_of (de_pow (do_of de_int) (do_of de_int))) (do_of de_int)) da_nil)))))))
      (dss_cons (ds_if (dt_ne hr.units (do_of (de_lamcall (ok__law_refused T 6) (hr.mono (by decide)) hG rfl T._law_refused.g T._law_refused.f.kp T._law_refused.b (takes_of rfl rfl rfl rfl) hTB hcode rfl (LamX.lamS_by rfl) rfl (fun _ _ _ _ _ => rfl) (fun _ _ _ _ _ _ _ hr hG => (de_call (ok_reach T) rfl (fun _ _ _ _ h => ar1_len h) (hr.mono (by decide)) hG rfl T.reach.g T.reach.f.kp T.reach.b (takes_of rfl rfl rfl rfl) (da_cons (dv 3) da_nil))))) (do_of (dv 7))) (dss_one (ds_ret de_bl)) dss_nil)
      (dss_cons (ds_if (dt_ne hr.units (do_of (de_lamcall (ok__law_refused T 6) (hr.mono (by decide)) hG rfl T._law_refused.g T._law_refused.f.kp T._law_refused.b (takes_of rfl rfl rfl rfl) hTB hcode rfl (LamX.lamS_by rfl) rfl (fun _ _ _ _ _ => rfl) (fun _ _ _ _ _ _ _ hr hG => (de_call (ok_alike_pair T) rfl (fun _ _ _ _ h => ar3_len h) (hr.mono (by decide)) hG rfl T.alike_pair.g T.alike_pair.f.kp T.alike_pair.b (takes_of rfl rfl rfl rfl) (da_cons (dv 3) (da_cons (dv 9) (da_cons (dv 10) da_nil))))))) (do_of (de_orN (dv 7) (de_bone (de_ife (dt_val (dv 11)) de_non (de_tup (da_cons de_str (da_cons de_non da_nil)))))))) (dss_one (ds_ret de_bl)) dss_nil)
      (dss_cons (ds_set 12 sc_law.nd (de_ife (dt_val (de_call (ok__law_is_int T) rfl (fun _ _ _ _ h => ar3_len h) (hr.mono (by decide)) hG rfl T._law_is_int.g T._law_is_int.f.kp T._law_is_int.b (takes_of rfl rfl rfl rfl) (da_cons (dv 10) (da_cons de_int (da_cons (de_sub (do_of (de_pow (do_of de_int) (do_of de_int))) (do_of de_int)) da_nil))))) de_non (de_tup (da_cons de_str (da_cons de_non da_nil)))))
      (dss_one (ds_if (DW.dt (dw_or (dt_ne hr.units (do_of (de_lamcall (ok__law_refused T 6) (hr.mono (by decide)) hG rfl T._law_refused.g T._law_refused.f.kp T._law_refused.b (takes_of rfl rfl rfl rfl) hTB hcode rfl (LamX.lamS_by rfl) rfl (fun _ _ _ _ _ => rfl) (fun _ _ _ _ _ _ _ hr hG => (de_call (ok_least_choices T) rfl (fun _ _ _ _ h => ar2_len h) (hr.mono (by decide)) hG rfl T.least_choices.g T.least_choices.f.kp T.least_choices.b (takes_of rfl rfl rfl rfl) (da_cons (dv 3) (da_cons (dv 10) da_nil)))))) (do_of (de_orN (dv 7) (de_bone (dv 12))))) (dw_or1 (dt_neS (do_of (de_reprE hG hr.units rfl T.z_repr (do_of (dv 3)))) (do_of (dv 6)))))) (dss_one (ds_ret de_bl)) dss_nil)))))))))))))
      (dss_one (ds_ret de_bl))))

end
set_option maxHeartbeats 0 in
theorem all_mk {P : Program} {w : World} {K : PySem.W.Frag} {h : Heap} {mg : Str → Option Value} {fa : Addr} {f0 f1 f2 f3 f4 f5 f6 f7 f8 f9 f10 f11 f12 f13 f14 f15 f16 f17 f18 f19 f20 f21 e_BadGroups e_BadHalf e_BadHalves e_BadLook e_BadNumber e_BadSpeed e_BadStretch e_Clash e_FlashError e_TooGreat tc0 tP0 : Addr} (X : K.In h) (G : h.Ns mainGlobals mg) (hfa : mg "law" = some (.ref fa))
    {od0 an0 od1 an1 od2 an2 od3 an3 od4 an4 od5 an5 od6 an6 od7 an7 od8 an8 od9 an9 od10 an10 od11 an11 od12 an12 od13 an13 od14 an14 od15 an15 od16 an16 od17 an17 od18 an18 od19 an19 od20 an20 od21 an21 : Option Addr} {sl0 sl1 sl2 sl3 sl4 sl5 sl6 sl7 sl8 sl9 sl10 sl11 sl12 sl13 sl14 sl15 sl16 sl17 sl18 sl19 sl20 sl21 : Array (Option Value)} {oc0 kV0 dc0 pm0 cd0 ct0 oc1 kV1 dc1 pm1 cd1 ct1 oc2 kV2 dc2 pm2 cd2 ct2 oc3 kV3 dc3 pm3 cd3 ct3 oc4 kV4 dc4 pm4 cd4 ct4 oc5 kV5 dc5 pm5 cd5 ct5 oc6 kV6 dc6 pm6 cd6 ct6 oc7 kV7 dc7 pm7 cd7 ct7 oc8 kV8 dc8 pm8 cd8 ct8 oc9 kV9 dc9 pm9 cd9 ct9 oc10 kV10 dc10 pm10 cd10 ct10 oc11 kV11 dc11 pm11 cd11 ct11 oc12 kV12 dc12 pm12 cd12 ct12 oc13 kV13 dc13 pm13 cd13 ct13 oc14 kV14 dc14 pm14 cd14 ct14 oc15 kV15 dc15 pm15 cd15 ct15 oc16 kV16 dc16 pm16 cd16 ct16 oc17 kV17 dc17 pm17 cd17 ct17 oc18 kV18 dc18 pm18 cd18 ct18 oc19 kV19 dc19 pm19 cd19 ct19 oc20 kV20 dc20 pm20 cd20 ct20 oc21 kV21 dc21 pm21 ct21 : Value}
    {fiBadHalves cdaBadHalves ccBadHalves NCBadHalves : Addr} {nmBadHalves qnBadHalves filBadHalves : Str} {bsBadHalves bmBadHalves subBadHalves : List Value} {snBadHalves : List Str} {abBadHalves : Bool} {colBadHalves : Option Bool} {ddBadHalves odiBadHalves aniBadHalves cddBadHalves cldBadHalves : Option Addr} {k0BadHalves k1BadHalves k2BadHalves k3BadHalves k5BadHalves : Option Value} {ociBadHalves kViBadHalves dciBadHalves pmiBadHalves ctiBadHalves cclBadHalves clBadHalves : Value} {sliBadHalves ccsBadHalves cslBadHalves : Array (Option Value)} {vsBadHalves : Array Value} {tfBadHalves : Tok}
    (gx_BadGroups : PySem.W.nsIn K mainGlobals "BadGroups" = some (some (.ref e_BadGroups)))
    (gx_BadHalf : PySem.W.nsIn K mainGlobals "BadHalf" = some (some (.ref e_BadHalf)))
    (gx_BadHalves : PySem.W.nsIn K mainGlobals "BadHalves" = some (some (.ref e_BadHalves)))
    (gx_BadLook : PySem.W.nsIn K mainGlobals "BadLook" = some (some (.ref e_BadLook)))
    (gx_BadNumber : PySem.W.nsIn K mainGlobals "BadNumber" = some (some (.ref e_BadNumber)))
    (gx_BadSpeed : PySem.W.nsIn K mainGlobals "BadSpeed" = some (some (.ref e_BadSpeed)))
    (gx_BadStretch : PySem.W.nsIn K mainGlobals "BadStretch" = some (some (.ref e_BadStretch)))
    (gx_Clash : PySem.W.nsIn K mainGlobals "Clash" = some (some (.ref e_Clash)))
    (gx_FlashError : PySem.W.nsIn K mainGlobals "FlashError" = some (some (.ref e_FlashError)))
    (gx_TooGreat : PySem.W.nsIn K mainGlobals "TooGreat" = some (some (.ref e_TooGreat)))
    (bm_BadGroups : PySem.W.subIn K (.ref e_BadGroups) (.type "BaseException") = some true)
    (hm_BadGroups : PySem.W.hasDictIn K e_BadGroups = true)
    (tm_BadGroups : PySem.W.typeIn K (.ref e_BadGroups) = some (.type "type"))
    (bm_BadHalf : PySem.W.subIn K (.ref e_BadHalf) (.type "BaseException") = some true)
    (hm_BadHalf : PySem.W.hasDictIn K e_BadHalf = true)
    (tm_BadHalf : PySem.W.typeIn K (.ref e_BadHalf) = some (.type "type"))
    (bm_BadHalves : PySem.W.subIn K (.ref e_BadHalves) (.type "BaseException") = some true)
    (hm_BadHalves : PySem.W.hasDictIn K e_BadHalves = true)
    (tm_BadHalves : PySem.W.typeIn K (.ref e_BadHalves) = some (.type "type"))
    (bm_BadLook : PySem.W.subIn K (.ref e_BadLook) (.type "BaseException") = some true)
    (hm_BadLook : PySem.W.hasDictIn K e_BadLook = true)
    (tm_BadLook : PySem.W.typeIn K (.ref e_BadLook) = some (.type "type"))
    (bm_BadNumber : PySem.W.subIn K (.ref e_BadNumber) (.type "BaseException") = some true)
    (hm_BadNumber : PySem.W.hasDictIn K e_BadNumber = true)
    (tm_BadNumber : PySem.W.typeIn K (.ref e_BadNumber) = some (.type "type"))
    (bm_BadSpeed : PySem.W.subIn K (.ref e_BadSpeed) (.type "BaseException") = some true)
    (hm_BadSpeed : PySem.W.hasDictIn K e_BadSpeed = true)
    (tm_BadSpeed : PySem.W.typeIn K (.ref e_BadSpeed) = some (.type "type"))
    (bm_BadStretch : PySem.W.subIn K (.ref e_BadStretch) (.type "BaseException") = some true)
    (hm_BadStretch : PySem.W.hasDictIn K e_BadStretch = true)
    (tm_BadStretch : PySem.W.typeIn K (.ref e_BadStretch) = some (.type "type"))
    (bm_Clash : PySem.W.subIn K (.ref e_Clash) (.type "BaseException") = some true)
    (hm_Clash : PySem.W.hasDictIn K e_Clash = true)
    (tm_Clash : PySem.W.typeIn K (.ref e_Clash) = some (.type "type"))
    (bm_FlashError : PySem.W.subIn K (.ref e_FlashError) (.type "BaseException") = some true)
    (hm_FlashError : PySem.W.hasDictIn K e_FlashError = true)
    (tm_FlashError : PySem.W.typeIn K (.ref e_FlashError) = some (.type "type"))
    (bm_TooGreat : PySem.W.subIn K (.ref e_TooGreat) (.type "BaseException") = some true)
    (hm_TooGreat : PySem.W.hasDictIn K e_TooGreat = true)
    (tm_TooGreat : PySem.W.typeIn K (.ref e_TooGreat) = some (.type "type"))
    (sm_BadGroups_FlashError : PySem.W.subIn K (.ref e_BadGroups) (.ref e_FlashError) = some true)
    (sm_BadHalf_FlashError : PySem.W.subIn K (.ref e_BadHalf) (.ref e_FlashError) = some true)
    (sm_BadHalves_FlashError : PySem.W.subIn K (.ref e_BadHalves) (.ref e_FlashError) = some true)
    (sm_BadLook_FlashError : PySem.W.subIn K (.ref e_BadLook) (.ref e_FlashError) = some true)
    (sm_BadNumber_FlashError : PySem.W.subIn K (.ref e_BadNumber) (.ref e_FlashError) = some true)
    (sm_BadSpeed_FlashError : PySem.W.subIn K (.ref e_BadSpeed) (.ref e_FlashError) = some true)
    (sm_BadStretch_FlashError : PySem.W.subIn K (.ref e_BadStretch) (.ref e_FlashError) = some true)
    (sm_Clash_FlashError : PySem.W.subIn K (.ref e_Clash) (.ref e_FlashError) = some true)
    (sm_TooGreat_FlashError : PySem.W.subIn K (.ref e_TooGreat) (.ref e_FlashError) = some true)
    (eccl_BadGroups : PySem.W.isClsIn K e_BadGroups = true)
    (ecga_BadGroups : PySem.W.findIn K (.ref e_BadGroups) "__getattribute__" = some (some (.builtin "BaseException.__getattribute__")))
    (ecgt_BadGroups : PySem.W.findIn K (.ref e_BadGroups) "__getattr__" = some none)
    (ecsu_BadGroups : PySem.W.subIn K (.ref e_BadGroups) (.type "BaseException") = some true)
    (echd_BadGroups : PySem.W.hasDictIn K e_BadGroups = true)
    (ecca_BadGroups : PySem.W.findIn K (.ref e_BadGroups) "__class__" = some (some (.builtin "object.__class__")))
    (eccn_BadGroups : PySem.W.specialIn K (.builtin "object.__class__") "__get__" = some (some (.builtin "getset_descriptor.__get__")))
    (ecct_BadGroups : PySem.W.takesIn K (.builtin "object.__class__") = some true)
    (eccm_BadGroups : PySem.W.mroIn K e_BadGroups (.type "object") = some true)
    (eccl_BadHalf : PySem.W.isClsIn K e_BadHalf = true)
    (ecga_BadHalf : PySem.W.findIn K (.ref e_BadHalf) "__getattribute__" = some (some (.builtin "BaseException.__getattribute__")))
    (ecgt_BadHalf : PySem.W.findIn K (.ref e_BadHalf) "__getattr__" = some none)
    (ecsu_BadHalf : PySem.W.subIn K (.ref e_BadHalf) (.type "BaseException") = some true)
    (echd_BadHalf : PySem.W.hasDictIn K e_BadHalf = true)
    (ecca_BadHalf : PySem.W.findIn K (.ref e_BadHalf) "__class__" = some (some (.builtin "object.__class__")))
    (eccn_BadHalf : PySem.W.specialIn K (.builtin "object.__class__") "__get__" = some (some (.builtin "getset_descriptor.__get__")))
    (ecct_BadHalf : PySem.W.takesIn K (.builtin "object.__class__") = some true)
    (eccm_BadHalf : PySem.W.mroIn K e_BadHalf (.type "object") = some true)
    (eccl_BadHalves : PySem.W.isClsIn K e_BadHalves = true)
    (ecga_BadHalves : PySem.W.findIn K (.ref e_BadHalves) "__getattribute__" = some (some (.builtin "BaseException.__getattribute__")))
    (ecgt_BadHalves : PySem.W.findIn K (.ref e_BadHalves) "__getattr__" = some none)
    (ecsu_BadHalves : PySem.W.subIn K (.ref e_BadHalves) (.type "BaseException") = some true)
    (echd_BadHalves : PySem.W.hasDictIn K e_BadHalves = true)
    (ecca_BadHalves : PySem.W.findIn K (.ref e_BadHalves) "__class__" = some (some (.builtin "object.__class__")))
    (eccn_BadHalves : PySem.W.specialIn K (.builtin "object.__class__") "__get__" = some (some (.builtin "getset_descriptor.__get__")))
    (ecct_BadHalves : PySem.W.takesIn K (.builtin "object.__class__") = some true)
    (eccm_BadHalves : PySem.W.mroIn K e_BadHalves (.type "object") = some true)
    (eccl_BadLook : PySem.W.isClsIn K e_BadLook = true)
    (ecga_BadLook : PySem.W.findIn K (.ref e_BadLook) "__getattribute__" = some (some (.builtin "BaseException.__getattribute__")))
    (ecgt_BadLook : PySem.W.findIn K (.ref e_BadLook) "__getattr__" = some none)
    (ecsu_BadLook : PySem.W.subIn K (.ref e_BadLook) (.type "BaseException") = some true)
    (echd_BadLook : PySem.W.hasDictIn K e_BadLook = true)
    (ecca_BadLook : PySem.W.findIn K (.ref e_BadLook) "__class__" = some (some (.builtin "object.__class__")))
    (eccn_BadLook : PySem.W.specialIn K (.builtin "object.__class__") "__get__" = some (some (.builtin "getset_descriptor.__get__")))
    (ecct_BadLook : PySem.W.takesIn K (.builtin "object.__class__") = some true)
    (eccm_BadLook : PySem.W.mroIn K e_BadLook (.type "object") = some true)
    (eccl_BadNumber : PySem.W.isClsIn K e_BadNumber = true)
    (ecga_BadNumber : PySem.W.findIn K (.ref e_BadNumber) "__getattribute__" = some (some (.builtin "BaseException.__getattribute__")))
    (ecgt_BadNumber : PySem.W.findIn K (.ref e_BadNumber) "__getattr__" = some none)
    (ecsu_BadNumber : PySem.W.subIn K (.ref e_BadNumber) (.type "BaseException") = some true)
    (echd_BadNumber : PySem.W.hasDictIn K e_BadNumber = true)
    (ecca_BadNumber : PySem.W.findIn K (.ref e_BadNumber) "__class__" = some (some (.builtin "object.__class__")))
    (eccn_BadNumber : PySem.W.specialIn K (.builtin "object.__class__") "__get__" = some (some (.builtin "getset_descriptor.__get__")))
    (ecct_BadNumber : PySem.W.takesIn K (.builtin "object.__class__") = some true)
    (eccm_BadNumber : PySem.W.mroIn K e_BadNumber (.type "object") = some true)
    (eccl_BadSpeed : PySem.W.isClsIn K e_BadSpeed = true)
    (ecga_BadSpeed : PySem.W.findIn K (.ref e_BadSpeed) "__getattribute__" = some (some (.builtin "BaseException.__getattribute__")))
    (ecgt_BadSpeed : PySem.W.findIn K (.ref e_BadSpeed) "__getattr__" = some none)
    (ecsu_BadSpeed : PySem.W.subIn K (.ref e_BadSpeed) (.type "BaseException") = some true)
    (echd_BadSpeed : PySem.W.hasDictIn K e_BadSpeed = true)
    (ecca_BadSpeed : PySem.W.findIn K (.ref e_BadSpeed) "__class__" = some (some (.builtin "object.__class__")))
    (eccn_BadSpeed : PySem.W.specialIn K (.builtin "object.__class__") "__get__" = some (some (.builtin "getset_descriptor.__get__")))
    (ecct_BadSpeed : PySem.W.takesIn K (.builtin "object.__class__") = some true)
    (eccm_BadSpeed : PySem.W.mroIn K e_BadSpeed (.type "object") = some true)
    (eccl_BadStretch : PySem.W.isClsIn K e_BadStretch = true)
    (ecga_BadStretch : PySem.W.findIn K (.ref e_BadStretch) "__getattribute__" = some (some (.builtin "BaseException.__getattribute__")))
    (ecgt_BadStretch : PySem.W.findIn K (.ref e_BadStretch) "__getattr__" = some none)
    (ecsu_BadStretch : PySem.W.subIn K (.ref e_BadStretch) (.type "BaseException") = some true)
    (echd_BadStretch : PySem.W.hasDictIn K e_BadStretch = true)
    (ecca_BadStretch : PySem.W.findIn K (.ref e_BadStretch) "__class__" = some (some (.builtin "object.__class__")))
    (eccn_BadStretch : PySem.W.specialIn K (.builtin "object.__class__") "__get__" = some (some (.builtin "getset_descriptor.__get__")))
    (ecct_BadStretch : PySem.W.takesIn K (.builtin "object.__class__") = some true)
    (eccm_BadStretch : PySem.W.mroIn K e_BadStretch (.type "object") = some true)
    (eccl_Clash : PySem.W.isClsIn K e_Clash = true)
    (ecga_Clash : PySem.W.findIn K (.ref e_Clash) "__getattribute__" = some (some (.builtin "BaseException.__getattribute__")))
    (ecgt_Clash : PySem.W.findIn K (.ref e_Clash) "__getattr__" = some none)
    (ecsu_Clash : PySem.W.subIn K (.ref e_Clash) (.type "BaseException") = some true)
    (echd_Clash : PySem.W.hasDictIn K e_Clash = true)
    (ecca_Clash : PySem.W.findIn K (.ref e_Clash) "__class__" = some (some (.builtin "object.__class__")))
    (eccn_Clash : PySem.W.specialIn K (.builtin "object.__class__") "__get__" = some (some (.builtin "getset_descriptor.__get__")))
    (ecct_Clash : PySem.W.takesIn K (.builtin "object.__class__") = some true)
    (eccm_Clash : PySem.W.mroIn K e_Clash (.type "object") = some true)
    (eccl_TooGreat : PySem.W.isClsIn K e_TooGreat = true)
    (ecga_TooGreat : PySem.W.findIn K (.ref e_TooGreat) "__getattribute__" = some (some (.builtin "BaseException.__getattribute__")))
    (ecgt_TooGreat : PySem.W.findIn K (.ref e_TooGreat) "__getattr__" = some none)
    (ecsu_TooGreat : PySem.W.subIn K (.ref e_TooGreat) (.type "BaseException") = some true)
    (echd_TooGreat : PySem.W.hasDictIn K e_TooGreat = true)
    (ecca_TooGreat : PySem.W.findIn K (.ref e_TooGreat) "__class__" = some (some (.builtin "object.__class__")))
    (eccn_TooGreat : PySem.W.specialIn K (.builtin "object.__class__") "__get__" = some (some (.builtin "getset_descriptor.__get__")))
    (ecct_TooGreat : PySem.W.takesIn K (.builtin "object.__class__") = some true)
    (eccm_TooGreat : PySem.W.mroIn K e_TooGreat (.type "object") = some true)
    (etNoneType_BadGroups : PySem.W.subIn K (.type "NoneType") (.ref e_BadGroups) = some false)
    (etbool_BadGroups : PySem.W.subIn K (.type "bool") (.ref e_BadGroups) = some false)
    (etint_BadGroups : PySem.W.subIn K (.type "int") (.ref e_BadGroups) = some false)
    (etstr_BadGroups : PySem.W.subIn K (.type "str") (.ref e_BadGroups) = some false)
    (ettuple_BadGroups : PySem.W.subIn K (.type "tuple") (.ref e_BadGroups) = some false)
    (etlist_BadGroups : PySem.W.subIn K (.type "list") (.ref e_BadGroups) = some false)
    (etdict_BadGroups : PySem.W.subIn K (.type "dict") (.ref e_BadGroups) = some false)
    (eti_BadGroups : PySem.W.isClsIn K e_BadGroups = true)
    (ett_BadGroups : PySem.W.typeIn K (.ref e_BadGroups) = some (.type "type"))
    (etNoneType_BadHalf : PySem.W.subIn K (.type "NoneType") (.ref e_BadHalf) = some false)
    (etbool_BadHalf : PySem.W.subIn K (.type "bool") (.ref e_BadHalf) = some false)
    (etint_BadHalf : PySem.W.subIn K (.type "int") (.ref e_BadHalf) = some false)
    (etstr_BadHalf : PySem.W.subIn K (.type "str") (.ref e_BadHalf) = some false)
    (ettuple_BadHalf : PySem.W.subIn K (.type "tuple") (.ref e_BadHalf) = some false)
    (etlist_BadHalf : PySem.W.subIn K (.type "list") (.ref e_BadHalf) = some false)
    (etdict_BadHalf : PySem.W.subIn K (.type "dict") (.ref e_BadHalf) = some false)
    (eti_BadHalf : PySem.W.isClsIn K e_BadHalf = true)
    (ett_BadHalf : PySem.W.typeIn K (.ref e_BadHalf) = some (.type "type"))
    (etNoneType_BadHalves : PySem.W.subIn K (.type "NoneType") (.ref e_BadHalves) = some false)
    (etbool_BadHalves : PySem.W.subIn K (.type "bool") (.ref e_BadHalves) = some false)
    (etint_BadHalves : PySem.W.subIn K (.type "int") (.ref e_BadHalves) = some false)
    (etstr_BadHalves : PySem.W.subIn K (.type "str") (.ref e_BadHalves) = some false)
    (ettuple_BadHalves : PySem.W.subIn K (.type "tuple") (.ref e_BadHalves) = some false)
    (etlist_BadHalves : PySem.W.subIn K (.type "list") (.ref e_BadHalves) = some false)
    (etdict_BadHalves : PySem.W.subIn K (.type "dict") (.ref e_BadHalves) = some false)
    (eti_BadHalves : PySem.W.isClsIn K e_BadHalves = true)
    (ett_BadHalves : PySem.W.typeIn K (.ref e_BadHalves) = some (.type "type"))
    (etNoneType_BadLook : PySem.W.subIn K (.type "NoneType") (.ref e_BadLook) = some false)
    (etbool_BadLook : PySem.W.subIn K (.type "bool") (.ref e_BadLook) = some false)
    (etint_BadLook : PySem.W.subIn K (.type "int") (.ref e_BadLook) = some false)
    (etstr_BadLook : PySem.W.subIn K (.type "str") (.ref e_BadLook) = some false)
    (ettuple_BadLook : PySem.W.subIn K (.type "tuple") (.ref e_BadLook) = some false)
    (etlist_BadLook : PySem.W.subIn K (.type "list") (.ref e_BadLook) = some false)
    (etdict_BadLook : PySem.W.subIn K (.type "dict") (.ref e_BadLook) = some false)
    (eti_BadLook : PySem.W.isClsIn K e_BadLook = true)
    (ett_BadLook : PySem.W.typeIn K (.ref e_BadLook) = some (.type "type"))
    (etNoneType_BadNumber : PySem.W.subIn K (.type "NoneType") (.ref e_BadNumber) = some false)
    (etbool_BadNumber : PySem.W.subIn K (.type "bool") (.ref e_BadNumber) = some false)
    (etint_BadNumber : PySem.W.subIn K (.type "int") (.ref e_BadNumber) = some false)
    (etstr_BadNumber : PySem.W.subIn K (.type "str") (.ref e_BadNumber) = some false)
    (ettuple_BadNumber : PySem.W.subIn K (.type "tuple") (.ref e_BadNumber) = some false)
    (etlist_BadNumber : PySem.W.subIn K (.type "list") (.ref e_BadNumber) = some false)
    (etdict_BadNumber : PySem.W.subIn K (.type "dict") (.ref e_BadNumber) = some false)
    (eti_BadNumber : PySem.W.isClsIn K e_BadNumber = true)
    (ett_BadNumber : PySem.W.typeIn K (.ref e_BadNumber) = some (.type "type"))
    (etNoneType_BadSpeed : PySem.W.subIn K (.type "NoneType") (.ref e_BadSpeed) = some false)
    (etbool_BadSpeed : PySem.W.subIn K (.type "bool") (.ref e_BadSpeed) = some false)
    (etint_BadSpeed : PySem.W.subIn K (.type "int") (.ref e_BadSpeed) = some false)
    (etstr_BadSpeed : PySem.W.subIn K (.type "str") (.ref e_BadSpeed) = some false)
    (ettuple_BadSpeed : PySem.W.subIn K (.type "tuple") (.ref e_BadSpeed) = some false)
    (etlist_BadSpeed : PySem.W.subIn K (.type "list") (.ref e_BadSpeed) = some false)
    (etdict_BadSpeed : PySem.W.subIn K (.type "dict") (.ref e_BadSpeed) = some false)
    (eti_BadSpeed : PySem.W.isClsIn K e_BadSpeed = true)
    (ett_BadSpeed : PySem.W.typeIn K (.ref e_BadSpeed) = some (.type "type"))
    (etNoneType_BadStretch : PySem.W.subIn K (.type "NoneType") (.ref e_BadStretch) = some false)
    (etbool_BadStretch : PySem.W.subIn K (.type "bool") (.ref e_BadStretch) = some false)
    (etint_BadStretch : PySem.W.subIn K (.type "int") (.ref e_BadStretch) = some false)
    (etstr_BadStretch : PySem.W.subIn K (.type "str") (.ref e_BadStretch) = some false)
    (ettuple_BadStretch : PySem.W.subIn K (.type "tuple") (.ref e_BadStretch) = some false)
    (etlist_BadStretch : PySem.W.subIn K (.type "list") (.ref e_BadStretch) = some false)
    (etdict_BadStretch : PySem.W.subIn K (.type "dict") (.ref e_BadStretch) = some false)
    (eti_BadStretch : PySem.W.isClsIn K e_BadStretch = true)
    (ett_BadStretch : PySem.W.typeIn K (.ref e_BadStretch) = some (.type "type"))
    (etNoneType_Clash : PySem.W.subIn K (.type "NoneType") (.ref e_Clash) = some false)
    (etbool_Clash : PySem.W.subIn K (.type "bool") (.ref e_Clash) = some false)
    (etint_Clash : PySem.W.subIn K (.type "int") (.ref e_Clash) = some false)
    (etstr_Clash : PySem.W.subIn K (.type "str") (.ref e_Clash) = some false)
    (ettuple_Clash : PySem.W.subIn K (.type "tuple") (.ref e_Clash) = some false)
    (etlist_Clash : PySem.W.subIn K (.type "list") (.ref e_Clash) = some false)
    (etdict_Clash : PySem.W.subIn K (.type "dict") (.ref e_Clash) = some false)
    (eti_Clash : PySem.W.isClsIn K e_Clash = true)
    (ett_Clash : PySem.W.typeIn K (.ref e_Clash) = some (.type "type"))
    (etNoneType_TooGreat : PySem.W.subIn K (.type "NoneType") (.ref e_TooGreat) = some false)
    (etbool_TooGreat : PySem.W.subIn K (.type "bool") (.ref e_TooGreat) = some false)
    (etint_TooGreat : PySem.W.subIn K (.type "int") (.ref e_TooGreat) = some false)
    (etstr_TooGreat : PySem.W.subIn K (.type "str") (.ref e_TooGreat) = some false)
    (ettuple_TooGreat : PySem.W.subIn K (.type "tuple") (.ref e_TooGreat) = some false)
    (etlist_TooGreat : PySem.W.subIn K (.type "list") (.ref e_TooGreat) = some false)
    (etdict_TooGreat : PySem.W.subIn K (.type "dict") (.ref e_TooGreat) = some false)
    (eti_TooGreat : PySem.W.isClsIn K e_TooGreat = true)
    (ett_TooGreat : PySem.W.typeIn K (.ref e_TooGreat) = some (.type "type"))
    (xi_BadGroups_BadGroups : PySem.W.kitOne K (.ref e_BadGroups) (.ref e_BadGroups) = some true)
    (xi_BadGroups_BadHalf : PySem.W.kitOne K (.ref e_BadGroups) (.ref e_BadHalf) = some false)
    (xi_BadGroups_BadHalves : PySem.W.kitOne K (.ref e_BadGroups) (.ref e_BadHalves) = some false)
    (xi_BadGroups_BadLook : PySem.W.kitOne K (.ref e_BadGroups) (.ref e_BadLook) = some false)
    (xi_BadGroups_BadNumber : PySem.W.kitOne K (.ref e_BadGroups) (.ref e_BadNumber) = some false)
    (xi_BadGroups_BadSpeed : PySem.W.kitOne K (.ref e_BadGroups) (.ref e_BadSpeed) = some false)
    (xi_BadGroups_BadStretch : PySem.W.kitOne K (.ref e_BadGroups) (.ref e_BadStretch) = some false)
    (xi_BadGroups_Clash : PySem.W.kitOne K (.ref e_BadGroups) (.ref e_Clash) = some false)
    (xi_BadGroups_TooGreat : PySem.W.kitOne K (.ref e_BadGroups) (.ref e_TooGreat) = some false)
    (xi_BadHalf_BadGroups : PySem.W.kitOne K (.ref e_BadHalf) (.ref e_BadGroups) = some false)
    (xi_BadHalf_BadHalf : PySem.W.kitOne K (.ref e_BadHalf) (.ref e_BadHalf) = some true)
    (xi_BadHalf_BadHalves : PySem.W.kitOne K (.ref e_BadHalf) (.ref e_BadHalves) = some false)
    (xi_BadHalf_BadLook : PySem.W.kitOne K (.ref e_BadHalf) (.ref e_BadLook) = some false)
    (xi_BadHalf_BadNumber : PySem.W.kitOne K (.ref e_BadHalf) (.ref e_BadNumber) = some false)
    (xi_BadHalf_BadSpeed : PySem.W.kitOne K (.ref e_BadHalf) (.ref e_BadSpeed) = some false)
    (xi_BadHalf_BadStretch : PySem.W.kitOne K (.ref e_BadHalf) (.ref e_BadStretch) = some false)
    (xi_BadHalf_Clash : PySem.W.kitOne K (.ref e_BadHalf) (.ref e_Clash) = some false)
    (xi_BadHalf_TooGreat : PySem.W.kitOne K (.ref e_BadHalf) (.ref e_TooGreat) = some false)
    (xi_BadHalves_BadGroups : PySem.W.kitOne K (.ref e_BadHalves) (.ref e_BadGroups) = some false)
    (xi_BadHalves_BadHalf : PySem.W.kitOne K (.ref e_BadHalves) (.ref e_BadHalf) = some false)
    (xi_BadHalves_BadHalves : PySem.W.kitOne K (.ref e_BadHalves) (.ref e_BadHalves) = some true)
    (xi_BadHalves_BadLook : PySem.W.kitOne K (.ref e_BadHalves) (.ref e_BadLook) = some false)
    (xi_BadHalves_BadNumber : PySem.W.kitOne K (.ref e_BadHalves) (.ref e_BadNumber) = some false)
    (xi_BadHalves_BadSpeed : PySem.W.kitOne K (.ref e_BadHalves) (.ref e_BadSpeed) = some false)
    (xi_BadHalves_BadStretch : PySem.W.kitOne K (.ref e_BadHalves) (.ref e_BadStretch) = some false)
    (xi_BadHalves_Clash : PySem.W.kitOne K (.ref e_BadHalves) (.ref e_Clash) = some false)
    (xi_BadHalves_TooGreat : PySem.W.kitOne K (.ref e_BadHalves) (.ref e_TooGreat) = some false)
    (xi_BadLook_BadGroups : PySem.W.kitOne K (.ref e_BadLook) (.ref e_BadGroups) = some false)
    (xi_BadLook_BadHalf : PySem.W.kitOne K (.ref e_BadLook) (.ref e_BadHalf) = some false)
    (xi_BadLook_BadHalves : PySem.W.kitOne K (.ref e_BadLook) (.ref e_BadHalves) = some false)
    (xi_BadLook_BadLook : PySem.W.kitOne K (.ref e_BadLook) (.ref e_BadLook) = some true)
    (xi_BadLook_BadNumber : PySem.W.kitOne K (.ref e_BadLook) (.ref e_BadNumber) = some false)
    (xi_BadLook_BadSpeed : PySem.W.kitOne K (.ref e_BadLook) (.ref e_BadSpeed) = some false)
    (xi_BadLook_BadStretch : PySem.W.kitOne K (.ref e_BadLook) (.ref e_BadStretch) = some false)
    (xi_BadLook_Clash : PySem.W.kitOne K (.ref e_BadLook) (.ref e_Clash) = some false)
    (xi_BadLook_TooGreat : PySem.W.kitOne K (.ref e_BadLook) (.ref e_TooGreat) = some false)
    (xi_BadNumber_BadGroups : PySem.W.kitOne K (.ref e_BadNumber) (.ref e_BadGroups) = some false)
    (xi_BadNumber_BadHalf : PySem.W.kitOne K (.ref e_BadNumber) (.ref e_BadHalf) = some false)
    (xi_BadNumber_BadHalves : PySem.W.kitOne K (.ref e_BadNumber) (.ref e_BadHalves) = some false)
    (xi_BadNumber_BadLook : PySem.W.kitOne K (.ref e_BadNumber) (.ref e_BadLook) = some false)
    (xi_BadNumber_BadNumber : PySem.W.kitOne K (.ref e_BadNumber) (.ref e_BadNumber) = some true)
    (xi_BadNumber_BadSpeed : PySem.W.kitOne K (.ref e_BadNumber) (.ref e_BadSpeed) = some false)
    (xi_BadNumber_BadStretch : PySem.W.kitOne K (.ref e_BadNumber) (.ref e_BadStretch) = some false)
    (xi_BadNumber_Clash : PySem.W.kitOne K (.ref e_BadNumber) (.ref e_Clash) = some false)
    (xi_BadNumber_TooGreat : PySem.W.kitOne K (.ref e_BadNumber) (.ref e_TooGreat) = some false)
    (xi_BadSpeed_BadGroups : PySem.W.kitOne K (.ref e_BadSpeed) (.ref e_BadGroups) = some false)
    (xi_BadSpeed_BadHalf : PySem.W.kitOne K (.ref e_BadSpeed) (.ref e_BadHalf) = some false)
    (xi_BadSpeed_BadHalves : PySem.W.kitOne K (.ref e_BadSpeed) (.ref e_BadHalves) = some false)
    (xi_BadSpeed_BadLook : PySem.W.kitOne K (.ref e_BadSpeed) (.ref e_BadLook) = some false)
    (xi_BadSpeed_BadNumber : PySem.W.kitOne K (.ref e_BadSpeed) (.ref e_BadNumber) = some false)
    (xi_BadSpeed_BadSpeed : PySem.W.kitOne K (.ref e_BadSpeed) (.ref e_BadSpeed) = some true)
    (xi_BadSpeed_BadStretch : PySem.W.kitOne K (.ref e_BadSpeed) (.ref e_BadStretch) = some false)
    (xi_BadSpeed_Clash : PySem.W.kitOne K (.ref e_BadSpeed) (.ref e_Clash) = some false)
    (xi_BadSpeed_TooGreat : PySem.W.kitOne K (.ref e_BadSpeed) (.ref e_TooGreat) = some false)
    (xi_BadStretch_BadGroups : PySem.W.kitOne K (.ref e_BadStretch) (.ref e_BadGroups) = some false)
    (xi_BadStretch_BadHalf : PySem.W.kitOne K (.ref e_BadStretch) (.ref e_BadHalf) = some false)
    (xi_BadStretch_BadHalves : PySem.W.kitOne K (.ref e_BadStretch) (.ref e_BadHalves) = some false)
    (xi_BadStretch_BadLook : PySem.W.kitOne K (.ref e_BadStretch) (.ref e_BadLook) = some false)
    (xi_BadStretch_BadNumber : PySem.W.kitOne K (.ref e_BadStretch) (.ref e_BadNumber) = some false)
    (xi_BadStretch_BadSpeed : PySem.W.kitOne K (.ref e_BadStretch) (.ref e_BadSpeed) = some false)
    (xi_BadStretch_BadStretch : PySem.W.kitOne K (.ref e_BadStretch) (.ref e_BadStretch) = some true)
    (xi_BadStretch_Clash : PySem.W.kitOne K (.ref e_BadStretch) (.ref e_Clash) = some false)
    (xi_BadStretch_TooGreat : PySem.W.kitOne K (.ref e_BadStretch) (.ref e_TooGreat) = some false)
    (xi_Clash_BadGroups : PySem.W.kitOne K (.ref e_Clash) (.ref e_BadGroups) = some false)
    (xi_Clash_BadHalf : PySem.W.kitOne K (.ref e_Clash) (.ref e_BadHalf) = some false)
    (xi_Clash_BadHalves : PySem.W.kitOne K (.ref e_Clash) (.ref e_BadHalves) = some false)
    (xi_Clash_BadLook : PySem.W.kitOne K (.ref e_Clash) (.ref e_BadLook) = some false)
    (xi_Clash_BadNumber : PySem.W.kitOne K (.ref e_Clash) (.ref e_BadNumber) = some false)
    (xi_Clash_BadSpeed : PySem.W.kitOne K (.ref e_Clash) (.ref e_BadSpeed) = some false)
    (xi_Clash_BadStretch : PySem.W.kitOne K (.ref e_Clash) (.ref e_BadStretch) = some false)
    (xi_Clash_Clash : PySem.W.kitOne K (.ref e_Clash) (.ref e_Clash) = some true)
    (xi_Clash_TooGreat : PySem.W.kitOne K (.ref e_Clash) (.ref e_TooGreat) = some false)
    (xi_TooGreat_BadGroups : PySem.W.kitOne K (.ref e_TooGreat) (.ref e_BadGroups) = some false)
    (xi_TooGreat_BadHalf : PySem.W.kitOne K (.ref e_TooGreat) (.ref e_BadHalf) = some false)
    (xi_TooGreat_BadHalves : PySem.W.kitOne K (.ref e_TooGreat) (.ref e_BadHalves) = some false)
    (xi_TooGreat_BadLook : PySem.W.kitOne K (.ref e_TooGreat) (.ref e_BadLook) = some false)
    (xi_TooGreat_BadNumber : PySem.W.kitOne K (.ref e_TooGreat) (.ref e_BadNumber) = some false)
    (xi_TooGreat_BadSpeed : PySem.W.kitOne K (.ref e_TooGreat) (.ref e_BadSpeed) = some false)
    (xi_TooGreat_BadStretch : PySem.W.kitOne K (.ref e_TooGreat) (.ref e_BadStretch) = some false)
    (xi_TooGreat_Clash : PySem.W.kitOne K (.ref e_TooGreat) (.ref e_Clash) = some false)
    (xi_TooGreat_TooGreat : PySem.W.kitOne K (.ref e_TooGreat) (.ref e_TooGreat) = some true)
    (xf_BadGroups_at : PySem.W.findIn K (.ref e_BadGroups) "at" = some none)
    (xf_BadHalves_at : PySem.W.findIn K (.ref e_BadHalves) "at" = some none)
    (xf_BadLook_at : PySem.W.findIn K (.ref e_BadLook) "at" = some none)
    (xf_TooGreat_most : PySem.W.findIn K (.ref e_TooGreat) "most" = some none)
    (xc_BadHalves : K.lookup e_BadHalves = some (excClassObj nmBadHalves qnBadHalves e_BadHalves NCBadHalves bsBadHalves bmBadHalves true snBadHalves subBadHalves abBadHalves colBadHalves ddBadHalves k0BadHalves k1BadHalves k2BadHalves k3BadHalves k5BadHalves "ValueError.__new__"))
    (xr_BadHalves : HandSPX.refsVE bmBadHalves = true)
    (xs_BadHalves : PySem.W.findIn K (.ref e_BadHalves) "__setattr__" = some (some (.builtin "object.__setattr__")))
    (xb_BadHalves : PySem.W.subIn K (.ref e_BadHalves) (.type "BaseException") = some true)
    (xt_BadHalves : PySem.W.typeIn K (.ref e_BadHalves) = some (.type "type"))
    (xk_BadHalves : PySem.W.keepIn K (.ref e_BadHalves) = true)
    (xi_BadHalves : PySem.W.findIn K (.ref e_BadHalves) "__init__" = some (some (.ref fiBadHalves)))
    (xf_BadHalves : PySem.W.typeIn K (.ref fiBadHalves) = some (.type "function"))
    (xl_BadHalves : K.lookup fiBadHalves = some ⟨ociBadHalves, odiBadHalves, .func (PySem.W.ksFn "__init__" "BadHalves.__init__" (defArgs s_BadHalves___init__) (defBody s_BadHalves___init__) (defScope s_BadHalves___init__) .none kViBadHalves dciBadHalves pmiBadHalves aniBadHalves (.ref cdaBadHalves) ctiBadHalves ccBadHalves), sliBadHalves⟩)
    (xo_BadHalves : PySem.W.codeIn K (.ref cdaBadHalves) "BadHalves.__init__" = true)
    (xd_BadHalves : K.lookup cdaBadHalves = some ⟨cclBadHalves, cddBadHalves, .fields vsBadHalves, ccsBadHalves⟩)
    (xv_BadHalves : vsBadHalves[2]? = some (.str filBadHalves tfBadHalves))
    (xp_BadHalves : ((P.main.file : Str) == filBadHalves) = true)
    (xe_BadHalves : K.lookup ccBadHalves = some ⟨clBadHalves, cldBadHalves, .cell (some (.ref e_BadHalves)), cslBadHalves⟩)
    (xu_BadHalves : PySem.W.ks_superIn K e_BadHalves e_BadHalves "__init__" = some (some (.builtin "ValueError.__init__")))
    (xw_BadHalves : PySem.W.subIn K (.ref e_BadHalves) (.type "ValueError") = some true)
    (xm_BadHalves : PySem.W.mroIn K e_BadHalves (.ref e_BadHalves) = some true)
    (xn_BadHalves : PySem.W.findIn K (.ref e_BadHalves) "at" = some none)
    (x_opq : PySem.W.nsIn K PySem.cStatics "thirdparty.any" = some none)
    (x_top : (P.main.scope.names.lookup ("super" : Str)).isSome = false)
    (tH0 : h.get? tP0 = some emTab)
    (tC0 : PySem.W.codeHdIn K tc0 tP0 = true)
    (tN0 : K.lookup tP0 = none)
    (xx_BadNumber : PySem.W.excIn K e_BadNumber [.type "ValueError", .type "Exception", .type "BaseException", .type "object"] "ValueError.__new__" = true)
    (kx_BadNumber : PySem.W.keepIn K (.ref e_BadNumber) = true)
    (bx_BadNumber : PySem.W.subIn K (.ref e_BadNumber) (.type "BaseException") = some true)
    (tx_BadNumber : PySem.W.typeIn K (.ref e_BadNumber) = some (.type "type"))
    (xx_BadStretch : PySem.W.excIn K e_BadStretch [.type "ValueError", .type "Exception", .type "BaseException", .type "object"] "ValueError.__new__" = true)
    (kx_BadStretch : PySem.W.keepIn K (.ref e_BadStretch) = true)
    (bx_BadStretch : PySem.W.subIn K (.ref e_BadStretch) (.type "BaseException") = some true)
    (tx_BadStretch : PySem.W.typeIn K (.ref e_BadStretch) = some (.type "type"))
    (z_abs : PySem.W.nsIn K mainGlobals "abs" = some none)
    (z_all : PySem.W.nsIn K mainGlobals "all" = some none)
    (z_bool : PySem.W.nsIn K mainGlobals "bool" = some none)
    (z_divmod : PySem.W.nsIn K mainGlobals "divmod" = some none)
    (z_enumerate : PySem.W.nsIn K mainGlobals "enumerate" = some none)
    (z_int : PySem.W.nsIn K mainGlobals "int" = some none)
    (z_isinstance : PySem.W.nsIn K mainGlobals "isinstance" = some none)
    (z_len : PySem.W.nsIn K mainGlobals "len" = some none)
    (z_list : PySem.W.nsIn K mainGlobals "list" = some none)
    (z_min : PySem.W.nsIn K mainGlobals "min" = some none)
    (z_range : PySem.W.nsIn K mainGlobals "range" = some none)
    (z_repr : PySem.W.nsIn K mainGlobals "repr" = some none)
    (z_sorted : PySem.W.nsIn K mainGlobals "sorted" = some none)
    (z_super : PySem.W.nsIn K mainGlobals "super" = some none)
    (z_tuple : PySem.W.nsIn K mainGlobals "tuple" = some none)
    (c_GREATEST : ∃ t, PySem.W.nsIn K mainGlobals "GREATEST" = some (some (.int 999999999999999999999999999999 t)))
    (c_GREATEST_HALF : ∃ t, PySem.W.nsIn K mainGlobals "GREATEST_HALF" = some (some (.int 1000 t)))
    (c_MOST_HALVES : ∃ t, PySem.W.nsIn K mainGlobals "MOST_HALVES" = some (some (.int 6 t)))
    (a0 : PySem.W.nsIn K mainGlobals "is_integer" = some (some (.ref f0)))
    (l0 : K.lookup f0 = some ⟨oc0, od0, .func (PySem.W.fnOf "is_integer" "is_integer" (defArgs s_is_integer) (defBody s_is_integer) (defScope s_is_integer) .none kV0 dc0 pm0 an0 cd0 ct0), sl0⟩)
    (c0 : PySem.W.codeIn K cd0 "is_integer" = true)
    (k0 : PySem.W.keepIn K (.ref f0) = true)
    (a1 : PySem.W.nsIn K mainGlobals "divisor" = some (some (.ref f1)))
    (l1 : K.lookup f1 = some ⟨oc1, od1, .func (PySem.W.fnOf "divisor" "divisor" (defArgs s_divisor) (defBody s_divisor) (defScope s_divisor) .none kV1 dc1 pm1 an1 cd1 ct1), sl1⟩)
    (c1 : PySem.W.codeIn K cd1 "divisor" = true)
    (k1 : PySem.W.keepIn K (.ref f1) = true)
    (a2 : PySem.W.nsIn K mainGlobals "all_choices" = some (some (.ref f2)))
    (l2 : K.lookup f2 = some ⟨oc2, od2, .func (PySem.W.fnOf "all_choices" "all_choices" (defArgs s_all_choices) (defBody s_all_choices) (defScope s_all_choices) .none kV2 dc2 pm2 an2 cd2 ct2), sl2⟩)
    (c2 : PySem.W.codeIn K cd2 "all_choices" = true)
    (k2 : PySem.W.keepIn K (.ref f2) = true)
    (a3 : PySem.W.nsIn K mainGlobals "least_ones" = some (some (.ref f3)))
    (l3 : K.lookup f3 = some ⟨oc3, od3, .func (PySem.W.fnOf "least_ones" "least_ones" (defArgs s_least_ones) (defBody s_least_ones) (defScope s_least_ones) .none kV3 dc3 pm3 an3 cd3 ct3), sl3⟩)
    (c3 : PySem.W.codeIn K cd3 "least_ones" = true)
    (k3 : PySem.W.keepIn K (.ref f3) = true)
    (a4 : PySem.W.nsIn K mainGlobals "_law_begin" = some (some (.ref f4)))
    (l4 : K.lookup f4 = some ⟨oc4, od4, .func (PySem.W.fnOf "_law_begin" "_law_begin" (defArgs s__law_begin) (defBody s__law_begin) (defScope s__law_begin) .none kV4 dc4 pm4 an4 cd4 ct4), sl4⟩)
    (c4 : PySem.W.codeIn K cd4 "_law_begin" = true)
    (k4 : PySem.W.keepIn K (.ref f4) = true)
    (a5 : PySem.W.nsIn K mainGlobals "_law_take" = some (some (.ref f5)))
    (l5 : K.lookup f5 = some ⟨oc5, od5, .func (PySem.W.fnOf "_law_take" "_law_take" (defArgs s__law_take) (defBody s__law_take) (defScope s__law_take) .none kV5 dc5 pm5 an5 cd5 ct5), sl5⟩)
    (c5 : PySem.W.codeIn K cd5 "_law_take" = true)
    (k5 : PySem.W.keepIn K (.ref f5) = true)
    (a6 : PySem.W.nsIn K mainGlobals "_law_is_int" = some (some (.ref f6)))
    (l6 : K.lookup f6 = some ⟨oc6, od6, .func (PySem.W.fnOf "_law_is_int" "_law_is_int" (defArgs s__law_is_int) (defBody s__law_is_int) (defScope s__law_is_int) .none kV6 dc6 pm6 an6 cd6 ct6), sl6⟩)
    (c6 : PySem.W.codeIn K cd6 "_law_is_int" = true)
    (k6 : PySem.W.keepIn K (.ref f6) = true)
    (a7 : PySem.W.nsIn K mainGlobals "_law_refused" = some (some (.ref f7)))
    (l7 : K.lookup f7 = some ⟨oc7, od7, .func (PySem.W.fnOf "_law_refused" "_law_refused" (defArgs s__law_refused) (defBody s__law_refused) (defScope s__law_refused) .none kV7 dc7 pm7 an7 cd7 ct7), sl7⟩)
    (c7 : PySem.W.codeIn K cd7 "_law_refused" = true)
    (k7 : PySem.W.keepIn K (.ref f7) = true)
    (a8 : PySem.W.nsIn K mainGlobals "is_between" = some (some (.ref f8)))
    (l8 : K.lookup f8 = some ⟨oc8, od8, .func (PySem.W.fnOf "is_between" "is_between" (defArgs s_is_between) (defBody s_is_between) (defScope s_is_between) .none kV8 dc8 pm8 an8 cd8 ct8), sl8⟩)
    (c8 : PySem.W.codeIn K cd8 "is_between" = true)
    (k8 : PySem.W.keepIn K (.ref f8) = true)
    (a9 : PySem.W.nsIn K mainGlobals "multiple" = some (some (.ref f9)))
    (l9 : K.lookup f9 = some ⟨oc9, od9, .func (PySem.W.fnOf "multiple" "multiple" (defArgs s_multiple) (defBody s_multiple) (defScope s_multiple) .none kV9 dc9 pm9 an9 cd9 ct9), sl9⟩)
    (c9 : PySem.W.codeIn K cd9 "multiple" = true)
    (k9 : PySem.W.keepIn K (.ref f9) = true)
    (a10 : PySem.W.nsIn K mainGlobals "_law_pick" = some (some (.ref f10)))
    (l10 : K.lookup f10 = some ⟨oc10, od10, .func (PySem.W.fnOf "_law_pick" "_law_pick" (defArgs s__law_pick) (defBody s__law_pick) (defScope s__law_pick) .none kV10 dc10 pm10 an10 cd10 ct10), sl10⟩)
    (c10 : PySem.W.codeIn K cd10 "_law_pick" = true)
    (k10 : PySem.W.keepIn K (.ref f10) = true)
    (a11 : PySem.W.nsIn K mainGlobals "_law_wrong" = some (some (.ref f11)))
    (l11 : K.lookup f11 = some ⟨oc11, od11, .func (PySem.W.fnOf "_law_wrong" "_law_wrong" (defArgs s__law_wrong) (defBody s__law_wrong) (defScope s__law_wrong) .none kV11 dc11 pm11 an11 cd11 ct11), sl11⟩)
    (c11 : PySem.W.codeIn K cd11 "_law_wrong" = true)
    (k11 : PySem.W.keepIn K (.ref f11) = true)
    (a12 : PySem.W.nsIn K mainGlobals "is_half" = some (some (.ref f12)))
    (l12 : K.lookup f12 = some ⟨oc12, od12, .func (PySem.W.fnOf "is_half" "is_half" (defArgs s_is_half) (defBody s_is_half) (defScope s_is_half) .none kV12 dc12 pm12 an12 cd12 ct12), sl12⟩)
    (c12 : PySem.W.codeIn K cd12 "is_half" = true)
    (k12 : PySem.W.keepIn K (.ref f12) = true)
    (a13 : PySem.W.nsIn K mainGlobals "splits" = some (some (.ref f13)))
    (l13 : K.lookup f13 = some ⟨oc13, od13, .func (PySem.W.fnOf "splits" "splits" (defArgs s_splits) (defBody s_splits) (defScope s_splits) .none kV13 dc13 pm13 an13 cd13 ct13), sl13⟩)
    (c13 : PySem.W.codeIn K cd13 "splits" = true)
    (k13 : PySem.W.keepIn K (.ref f13) = true)
    (a14 : PySem.W.nsIn K mainGlobals "_law_odd" = some (some (.ref f14)))
    (l14 : K.lookup f14 = some ⟨oc14, od14, .func (PySem.W.fnOf "_law_odd" "_law_odd" (defArgs s__law_odd) (defBody s__law_odd) (defScope s__law_odd) .none kV14 dc14 pm14 an14 cd14 ct14), sl14⟩)
    (c14 : PySem.W.codeIn K cd14 "_law_odd" = true)
    (k14 : PySem.W.keepIn K (.ref f14) = true)
    (a15 : PySem.W.nsIn K mainGlobals "need_halves" = some (some (.ref f15)))
    (l15 : K.lookup f15 = some ⟨oc15, od15, .func (PySem.W.fnOf "need_halves" "need_halves" (defArgs s_need_halves) (defBody s_need_halves) (defScope s_need_halves) .none kV15 dc15 pm15 an15 cd15 ct15), sl15⟩)
    (c15 : PySem.W.codeIn K cd15 "need_halves" = true)
    (k15 : PySem.W.keepIn K (.ref f15) = true)
    (a16 : PySem.W.nsIn K mainGlobals "pair_in" = some (some (.ref f16)))
    (l16 : K.lookup f16 = some ⟨oc16, od16, .func (PySem.W.fnOf "pair_in" "pair_in" (defArgs s_pair_in) (defBody s_pair_in) (defScope s_pair_in) .none kV16 dc16 pm16 an16 cd16 ct16), sl16⟩)
    (c16 : PySem.W.codeIn K cd16 "pair_in" = true)
    (k16 : PySem.W.keepIn K (.ref f16) = true)
    (a17 : PySem.W.nsIn K mainGlobals "reach" = some (some (.ref f17)))
    (l17 : K.lookup f17 = some ⟨oc17, od17, .func (PySem.W.fnOf "reach" "reach" (defArgs s_reach) (defBody s_reach) (defScope s_reach) .none kV17 dc17 pm17 an17 cd17 ct17), sl17⟩)
    (c17 : PySem.W.codeIn K cd17 "reach" = true)
    (k17 : PySem.W.keepIn K (.ref f17) = true)
    (a18 : PySem.W.nsIn K mainGlobals "alike_pair" = some (some (.ref f18)))
    (l18 : K.lookup f18 = some ⟨oc18, od18, .func (PySem.W.fnOf "alike_pair" "alike_pair" (defArgs s_alike_pair) (defBody s_alike_pair) (defScope s_alike_pair) .none kV18 dc18 pm18 an18 cd18 ct18), sl18⟩)
    (c18 : PySem.W.codeIn K cd18 "alike_pair" = true)
    (k18 : PySem.W.keepIn K (.ref f18) = true)
    (a19 : PySem.W.nsIn K mainGlobals "least_choices" = some (some (.ref f19)))
    (l19 : K.lookup f19 = some ⟨oc19, od19, .func (PySem.W.fnOf "least_choices" "least_choices" (defArgs s_least_choices) (defBody s_least_choices) (defScope s_least_choices) .none kV19 dc19 pm19 an19 cd19 ct19), sl19⟩)
    (c19 : PySem.W.codeIn K cd19 "least_choices" = true)
    (k19 : PySem.W.keepIn K (.ref f19) = true)
    (a20 : PySem.W.nsIn K mainGlobals "_law_bent" = some (some (.ref f20)))
    (l20 : K.lookup f20 = some ⟨oc20, od20, .func (PySem.W.fnOf "_law_bent" "_law_bent" (defArgs s__law_bent) (defBody s__law_bent) (defScope s__law_bent) .none kV20 dc20 pm20 an20 cd20 ct20), sl20⟩)
    (c20 : PySem.W.codeIn K cd20 "_law_bent" = true)
    (k20 : PySem.W.keepIn K (.ref f20) = true)
    (a21 : PySem.W.nsIn K mainGlobals "law" = some (some (.ref f21)))
    (l21 : K.lookup f21 = some ⟨oc21, od21, .func (PySem.W.fnOf "law" "law" (defArgs s_law) (defBody s_law) (defScope s_law) .none kV21 dc21 pm21 an21 (.ref tc0) ct21), sl21⟩)
    (c21 : PySem.W.codeIn K (.ref tc0) "law" = true)
    (k21 : PySem.W.keepIn K (.ref f21) = true)
    : ∃ (fd : FuncData) (ms : List Mk), (∀ (s : Shared) (u : Value), BindsTo s fd ⟨[u], []⟩ [("_law_script", u)]) ∧ (∀ m ∈ ms, h.get? m.p = some emTab) ∧ (∀ m ∈ ms, PySem.W.CodeHd h m.c m.p) ∧ (∀ m ∈ ms, K.lookup m.p = none) ∧ (ms.map (·.p)).Nodup ∧ ∀ base : Heap, K.In base → base.Ns mainGlobals mg → (∀ m ∈ ms, LamX.TabB base mg m.c m.p) → FnG P w K mg base 12 fa fd ["_law_script"] (toSp K 1 (sp_lawT (ms.map fun m => (m.p, m.q)))) := by
  have e := hfa.symm.trans (PySem.W.mg_of X G a21)
  cases e
  have F0 := fun_mk (st := s_is_integer) l0 c0 k0
  have D0 : DefT K mg "is_integer" s_is_integer ["thing"] f0 _ := ⟨F0, F0.binds (ps := ["thing"]) fun _ _ _ _ _ _ us hl => match us, hl with | [_], _ => rfl, PySem.W.mg_of X G a0⟩
  have F1 := fun_mk (st := s_divisor) l1 c1 k1
  have D1 : DefT K mg "divisor" s_divisor ["one", "other"] f1 _ := ⟨F1, F1.binds (ps := ["one", "other"]) fun _ _ _ _ _ _ us hl => match us, hl with | [_, _], _ => rfl, PySem.W.mg_of X G a1⟩
  have F2 := fun_mk (st := s_all_choices) l2 c2 k2
  have D2 : DefT K mg "all_choices" s_all_choices ["many"] f2 _ := ⟨F2, F2.binds (ps := ["many"]) fun _ _ _ _ _ _ us hl => match us, hl with | [_], _ => rfl, PySem.W.mg_of X G a2⟩
  have F3 := fun_mk (st := s_least_ones) l3 c3 k3
  have D3 : DefT K mg "least_ones" s_least_ones ["choices"] f3 _ := ⟨F3, F3.binds (ps := ["choices"]) fun _ _ _ _ _ _ us hl => match us, hl with | [_], _ => rfl, PySem.W.mg_of X G a3⟩
  have F4 := fun_mk (st := s__law_begin) l4 c4 k4
  have D4 : DefT K mg "_law_begin" s__law_begin ["_law_script"] f4 _ := ⟨F4, F4.binds (ps := ["_law_script"]) fun _ _ _ _ _ _ us hl => match us, hl with | [_], _ => rfl, PySem.W.mg_of X G a4⟩
  have F5 := fun_mk (st := s__law_take) l5 c5 k5
  have D5 : DefT K mg "_law_take" s__law_take ["_law_draw", "_law_size"] f5 _ := ⟨F5, F5.binds (ps := ["_law_draw", "_law_size"]) fun _ _ _ _ _ _ us hl => match us, hl with | [_, _], _ => rfl, PySem.W.mg_of X G a5⟩
  have F6 := fun_mk (st := s__law_is_int) l6 c6 k6
  have D6 : DefT K mg "_law_is_int" s__law_is_int ["_law_worth", "_law_floor", "_law_roof"] f6 _ := ⟨F6, F6.binds (ps := ["_law_worth", "_law_floor", "_law_roof"]) fun _ _ _ _ _ _ us hl => match us, hl with | [_, _, _], _ => rfl, PySem.W.mg_of X G a6⟩
  have F7 := fun_mk (st := s__law_refused) l7 c7 k7
  have D7 : DefT K mg "_law_refused" s__law_refused ["_law_work"] f7 _ := ⟨F7, F7.binds (ps := ["_law_work"]) fun _ _ _ _ _ _ us hl => match us, hl with | [_], _ => rfl, PySem.W.mg_of X G a7⟩
  have F8 := fun_mk (st := s_is_between) l8 c8 k8
  have D8 : DefT K mg "is_between" s_is_between ["thing", "low", "high"] f8 _ := ⟨F8, F8.binds (ps := ["thing", "low", "high"]) fun _ _ _ _ _ _ us hl => match us, hl with | [_, _, _], _ => rfl, PySem.W.mg_of X G a8⟩
  have F9 := fun_mk (st := s_multiple) l9 c9 k9
  have D9 : DefT K mg "multiple" s_multiple ["numbers"] f9 _ := ⟨F9, F9.binds (ps := ["numbers"]) fun _ _ _ _ _ _ us hl => match us, hl with | [_], _ => rfl, PySem.W.mg_of X G a9⟩
  have F10 := fun_mk (st := s__law_pick) l10 c10 k10
  have D10 : DefT K mg "_law_pick" s__law_pick ["_law_draw", "_law_some"] f10 _ := ⟨F10, F10.binds (ps := ["_law_draw", "_law_some"]) fun _ _ _ _ _ _ us hl => match us, hl with | [_, _], _ => rfl, PySem.W.mg_of X G a10⟩
  have F11 := fun_mk (st := s__law_wrong) l11 c11 k11
  have D11 : DefT K mg "_law_wrong" s__law_wrong ["_law_matter"] f11 _ := ⟨F11, F11.binds (ps := ["_law_matter"]) fun _ _ _ _ _ _ us hl => match us, hl with | [_], _ => rfl, PySem.W.mg_of X G a11⟩
  have F12 := fun_mk (st := s_is_half) l12 c12 k12
  have D12 : DefT K mg "is_half" s_is_half ["thing"] f12 _ := ⟨F12, F12.binds (ps := ["thing"]) fun _ _ _ _ _ _ us hl => match us, hl with | [_], _ => rfl, PySem.W.mg_of X G a12⟩
  have F13 := fun_mk (st := s_splits) l13 c13 k13
  have D13 : DefT K mg "splits" s_splits ["halves"] f13 _ := ⟨F13, F13.binds (ps := ["halves"]) fun _ _ _ _ _ _ us hl => match us, hl with | [_], _ => rfl, PySem.W.mg_of X G a13⟩
  have F14 := fun_mk (st := s__law_odd) l14 c14 k14
  have D14 : DefT K mg "_law_odd" s__law_odd ["_law_draw"] f14 _ := ⟨F14, F14.binds (ps := ["_law_draw"]) fun _ _ _ _ _ _ us hl => match us, hl with | [_], _ => rfl, PySem.W.mg_of X G a14⟩
  have F15 := fun_mk (st := s_need_halves) l15 c15 k15
  have D15 : DefT K mg "need_halves" s_need_halves ["halves"] f15 _ := ⟨F15, F15.binds (ps := ["halves"]) fun _ _ _ _ _ _ us hl => match us, hl with | [_], _ => rfl, PySem.W.mg_of X G a15⟩
  have F16 := fun_mk (st := s_pair_in) l16 c16 k16
  have D16 : DefT K mg "pair_in" s_pair_in ["halves", "low", "high"] f16 _ := ⟨F16, F16.binds (ps := ["halves", "low", "high"]) fun _ _ _ _ _ _ us hl => match us, hl with | [_, _, _], _ => rfl, PySem.W.mg_of X G a16⟩
  have F17 := fun_mk (st := s_reach) l17 c17 k17
  have D17 : DefT K mg "reach" s_reach ["halves"] f17 _ := ⟨F17, F17.binds (ps := ["halves"]) fun _ _ _ _ _ _ us hl => match us, hl with | [_], _ => rfl, PySem.W.mg_of X G a17⟩
  have F18 := fun_mk (st := s_alike_pair) l18 c18 k18
  have D18 : DefT K mg "alike_pair" s_alike_pair ["halves", "low", "high"] f18 _ := ⟨F18, F18.binds (ps := ["halves", "low", "high"]) fun _ _ _ _ _ _ us hl => match us, hl with | [_, _, _], _ => rfl, PySem.W.mg_of X G a18⟩
  have F19 := fun_mk (st := s_least_choices) l19 c19 k19
  have D19 : DefT K mg "least_choices" s_least_choices ["halves", "high"] f19 _ := ⟨F19, F19.binds (ps := ["halves", "high"]) fun _ _ _ _ _ _ us hl => match us, hl with | [_, _], _ => rfl, PySem.W.mg_of X G a19⟩
  have F20 := fun_mk (st := s__law_bent) l20 c20 k20
  have D20 : DefT K mg "_law_bent" s__law_bent ["_law_draw", "_law_matter", "_law_spare"] f20 _ := ⟨F20, F20.binds (ps := ["_law_draw", "_law_matter", "_law_spare"]) fun _ _ _ _ _ _ us hl => match us, hl with | [_, _, _], _ => rfl, PySem.W.mg_of X G a20⟩
  have F21 := fun_mk (st := s_law) l21 c21 k21
  have D21 : DefT K mg "law" s_law ["_law_script"] fa _ := ⟨F21, F21.binds (ps := ["_law_script"]) fun _ _ _ _ _ _ us hl => match us, hl with | [_], _ => rfl, PySem.W.mg_of X G a21⟩
  have T : ∀ base : Heap, (∀ m ∈ [Mk.mk tc0 tP0 ((("law" : Str) ++ ".<locals>.") ++ "<lambda>")], LamX.TabB base mg m.c m.p) → Txt K mg base P ⟨e_BadSpeed, e_BadHalf, e_BadNumber, e_BadStretch, 0, e_BadHalves, 0, e_TooGreat, 0, e_BadLook, e_Clash, 0, 0, e_BadGroups, 0, 0, 0, 0, 0, 0, 0, 0, 0, 0, e_FlashError, fun i => match i with | 0 => tP0 | _ => 0⟩ ⟨(f0, (PySem.W.fnOf "is_integer" "is_integer" (defArgs s_is_integer) (defBody s_is_integer) (defScope s_is_integer) .none kV0 dc0 pm0 an0 cd0 ct0)), (f1, (PySem.W.fnOf "divisor" "divisor" (defArgs s_divisor) (defBody s_divisor) (defScope s_divisor) .none kV1 dc1 pm1 an1 cd1 ct1)), (f2, (PySem.W.fnOf "all_choices" "all_choices" (defArgs s_all_choices) (defBody s_all_choices) (defScope s_all_choices) .none kV2 dc2 pm2 an2 cd2 ct2)), (f3, (PySem.W.fnOf "least_ones" "least_ones" (defArgs s_least_ones) (defBody s_least_ones) (defScope s_least_ones) .none kV3 dc3 pm3 an3 cd3 ct3)), (f4, (PySem.W.fnOf "_law_begin" "_law_begin" (defArgs s__law_begin) (defBody s__law_begin) (defScope s__law_begin) .none kV4 dc4 pm4 an4 cd4 ct4)), (f5, (PySem.W.fnOf "_law_take" "_law_take" (defArgs s__law_take) (defBody s__law_take) (defScope s__law_take) .none kV5 dc5 pm5 an5 cd5 ct5)), (f6, (PySem.W.fnOf "_law_is_int" "_law_is_int" (defArgs s__law_is_int) (defBody s__law_is_int) (defScope s__law_is_int) .none kV6 dc6 pm6 an6 cd6 ct6)), (f7, (PySem.W.fnOf "_law_refused" "_law_refused" (defArgs s__law_refused) (defBody s__law_refused) (defScope s__law_refused) .none kV7 dc7 pm7 an7 cd7 ct7)), (f8, (PySem.W.fnOf "is_between" "is_between" (defArgs s_is_between) (defBody s_is_between) (defScope s_is_between) .none kV8 dc8 pm8 an8 cd8 ct8)), (f9, (PySem.W.fnOf "multiple" "multiple" (defArgs s_multiple) (defBody s_multiple) (defScope s_multiple) .none kV9 dc9 pm9 an9 cd9 ct9)), (f10, (PySem.W.fnOf "_law_pick" "_law_pick" (defArgs s__law_pick) (defBody s__law_pick) (defScope s__law_pick) .none kV10 dc10 pm10 an10 cd10 ct10)), (f11, (PySem.W.fnOf "_law_wrong" "_law_wrong" (defArgs s__law_wrong) (defBody s__law_wrong) (defScope s__law_wrong) .none kV11 dc11 pm11 an11 cd11 ct11)), (f12, (PySem.W.fnOf "is_half" "is_half" (defArgs s_is_half) (defBody s_is_half) (defScope s_is_half) .none kV12 dc12 pm12 an12 cd12 ct12)), (f13, (PySem.W.fnOf "splits" "splits" (defArgs s_splits) (defBody s_splits) (defScope s_splits) .none kV13 dc13 pm13 an13 cd13 ct13)), (f14, (PySem.W.fnOf "_law_odd" "_law_odd" (defArgs s__law_odd) (defBody s__law_odd) (defScope s__law_odd) .none kV14 dc14 pm14 an14 cd14 ct14)), (f15, (PySem.W.fnOf "need_halves" "need_halves" (defArgs s_need_halves) (defBody s_need_halves) (defScope s_need_halves) .none kV15 dc15 pm15 an15 cd15 ct15)), (f16, (PySem.W.fnOf "pair_in" "pair_in" (defArgs s_pair_in) (defBody s_pair_in) (defScope s_pair_in) .none kV16 dc16 pm16 an16 cd16 ct16)), (f17, (PySem.W.fnOf "reach" "reach" (defArgs s_reach) (defBody s_reach) (defScope s_reach) .none kV17 dc17 pm17 an17 cd17 ct17)), (f18, (PySem.W.fnOf "alike_pair" "alike_pair" (defArgs s_alike_pair) (defBody s_alike_pair) (defScope s_alike_pair) .none kV18 dc18 pm18 an18 cd18 ct18)), (f19, (PySem.W.fnOf "least_choices" "least_choices" (defArgs s_least_choices) (defBody s_least_choices) (defScope s_least_choices) .none kV19 dc19 pm19 an19 cd19 ct19)), (f20, (PySem.W.fnOf "_law_bent" "_law_bent" (defArgs s__law_bent) (defBody s__law_bent) (defScope s__law_bent) .none kV20 dc20 pm20 an20 cd20 ct20)), (fa, (PySem.W.fnOf "law" "law" (defArgs s_law) (defBody s_law) (defScope s_law) .none kV21 dc21 pm21 an21 (.ref tc0) ct21))⟩ := fun base hTB => ⟨PySem.W.mg_none_of X G z_abs, PySem.W.mg_none_of X G z_all, PySem.W.mg_none_of X G z_bool, PySem.W.mg_none_of X G z_divmod, PySem.W.mg_none_of X G z_enumerate, PySem.W.mg_none_of X G z_int, PySem.W.mg_none_of X G z_isinstance, PySem.W.mg_none_of X G z_len, PySem.W.mg_none_of X G z_list, PySem.W.mg_none_of X G z_min, PySem.W.mg_none_of X G z_range, PySem.W.mg_none_of X G z_repr, PySem.W.mg_none_of X G z_sorted, PySem.W.mg_none_of X G z_super, PySem.W.mg_none_of X G z_tuple, c_GREATEST.elim fun t h => ⟨t, PySem.W.mg_of X G h⟩, c_GREATEST_HALF.elim fun t h => ⟨t, PySem.W.mg_of X G h⟩, c_MOST_HALVES.elim fun t h => ⟨t, PySem.W.mg_of X G h⟩, ⟨PySem.W.mg_of X G gx_BadNumber, xx_BadNumber, kx_BadNumber, bx_BadNumber, tx_BadNumber⟩, ⟨PySem.W.mg_of X G gx_BadStretch, xx_BadStretch, kx_BadStretch, bx_BadStretch, tx_BadStretch⟩, ⟨PySem.W.mg_of X G gx_BadHalves, PySem.W.mg_none_of X G z_super, ⟨⟨nmBadHalves, qnBadHalves, NCBadHalves, bsBadHalves, bmBadHalves, snBadHalves, subBadHalves, abBadHalves, colBadHalves, ddBadHalves, k0BadHalves, k1BadHalves, k2BadHalves, k3BadHalves, k5BadHalves, xc_BadHalves, xr_BadHalves⟩, xs_BadHalves, xb_BadHalves, xt_BadHalves, xk_BadHalves⟩, fiBadHalves, _, initA_mk iw_BadHalves xl_BadHalves xo_BadHalves xd_BadHalves xv_BadHalves xp_BadHalves xe_BadHalves xu_BadHalves xw_BadHalves xm_BadHalves x_opq xn_BadHalves x_top, xi_BadHalves, xf_BadHalves⟩, PySem.W.mg_of X G gx_BadGroups, PySem.W.mg_of X G gx_BadHalf, PySem.W.mg_of X G gx_BadHalves, PySem.W.mg_of X G gx_BadLook, PySem.W.mg_of X G gx_BadNumber, PySem.W.mg_of X G gx_BadSpeed, PySem.W.mg_of X G gx_BadStretch, PySem.W.mg_of X G gx_Clash, PySem.W.mg_of X G gx_FlashError, PySem.W.mg_of X G gx_TooGreat, PySem.W.exm_ref bm_FlashError hm_FlashError tm_FlashError sm_BadGroups_FlashError, PySem.W.exm_ref bm_FlashError hm_FlashError tm_FlashError sm_BadHalf_FlashError, PySem.W.exm_ref bm_FlashError hm_FlashError tm_FlashError sm_BadHalves_FlashError, PySem.W.exm_ref bm_FlashError hm_FlashError tm_FlashError sm_BadLook_FlashError, PySem.W.exm_ref bm_FlashError hm_FlashError tm_FlashError sm_BadNumber_FlashError, PySem.W.exm_ref bm_FlashError hm_FlashError tm_FlashError sm_BadSpeed_FlashError, PySem.W.exm_ref bm_FlashError hm_FlashError tm_FlashError sm_BadStretch_FlashError, PySem.W.exm_ref bm_FlashError hm_FlashError tm_FlashError sm_Clash_FlashError, PySem.W.exm_ref bm_FlashError hm_FlashError tm_FlashError sm_TooGreat_FlashError, ⟨eccl_BadGroups, ecga_BadGroups, ecgt_BadGroups, ecsu_BadGroups, echd_BadGroups, ecca_BadGroups, eccn_BadGroups, ecct_BadGroups, eccm_BadGroups⟩, ⟨eccl_BadHalf, ecga_BadHalf, ecgt_BadHalf, ecsu_BadHalf, echd_BadHalf, ecca_BadHalf, eccn_BadHalf, ecct_BadHalf, eccm_BadHalf⟩, ⟨eccl_BadHalves, ecga_BadHalves, ecgt_BadHalves, ecsu_BadHalves, echd_BadHalves, ecca_BadHalves, eccn_BadHalves, ecct_BadHalves, eccm_BadHalves⟩, ⟨eccl_BadLook, ecga_BadLook, ecgt_BadLook, ecsu_BadLook, echd_BadLook, ecca_BadLook, eccn_BadLook, ecct_BadLook, eccm_BadLook⟩, ⟨eccl_BadNumber, ecga_BadNumber, ecgt_BadNumber, ecsu_BadNumber, echd_BadNumber, ecca_BadNumber, eccn_BadNumber, ecct_BadNumber, eccm_BadNumber⟩, ⟨eccl_BadSpeed, ecga_BadSpeed, ecgt_BadSpeed, ecsu_BadSpeed, echd_BadSpeed, ecca_BadSpeed, eccn_BadSpeed, ecct_BadSpeed, eccm_BadSpeed⟩, ⟨eccl_BadStretch, ecga_BadStretch, ecgt_BadStretch, ecsu_BadStretch, echd_BadStretch, ecca_BadStretch, eccn_BadStretch, ecct_BadStretch, eccm_BadStretch⟩, ⟨eccl_Clash, ecga_Clash, ecgt_Clash, ecsu_Clash, echd_Clash, ecca_Clash, eccn_Clash, ecct_Clash, eccm_Clash⟩, ⟨eccl_TooGreat, ecga_TooGreat, ecgt_TooGreat, ecsu_TooGreat, echd_TooGreat, ecca_TooGreat, eccn_TooGreat, ecct_TooGreat, eccm_TooGreat⟩, by simp only [tys, List.mem_cons, List.not_mem_nil, or_false, forall_eq_or_imp, forall_eq]; exact ⟨kit_notE eti_BadGroups ett_BadGroups etNoneType_BadGroups, kit_notE eti_BadGroups ett_BadGroups etbool_BadGroups, kit_notE eti_BadGroups ett_BadGroups etint_BadGroups, kit_notE eti_BadGroups ett_BadGroups etstr_BadGroups, kit_notE eti_BadGroups ett_BadGroups ettuple_BadGroups, kit_notE eti_BadGroups ett_BadGroups etlist_BadGroups, kit_notE eti_BadGroups ett_BadGroups etdict_BadGroups⟩, by simp only [tys, List.mem_cons, List.not_mem_nil, or_false, forall_eq_or_imp, forall_eq]; exact ⟨kit_notE eti_BadHalf ett_BadHalf etNoneType_BadHalf, kit_notE eti_BadHalf ett_BadHalf etbool_BadHalf, kit_notE eti_BadHalf ett_BadHalf etint_BadHalf, kit_notE eti_BadHalf ett_BadHalf etstr_BadHalf, kit_notE eti_BadHalf ett_BadHalf ettuple_BadHalf, kit_notE eti_BadHalf ett_BadHalf etlist_BadHalf, kit_notE eti_BadHalf ett_BadHalf etdict_BadHalf⟩, by simp only [tys, List.mem_cons, List.not_mem_nil, or_false, forall_eq_or_imp, forall_eq]; exact ⟨kit_notE eti_BadHalves ett_BadHalves etNoneType_BadHalves, kit_notE eti_BadHalves ett_BadHalves etbool_BadHalves, kit_notE eti_BadHalves ett_BadHalves etint_BadHalves, kit_notE eti_BadHalves ett_BadHalves etstr_BadHalves, kit_notE eti_BadHalves ett_BadHalves ettuple_BadHalves, kit_notE eti_BadHalves ett_BadHalves etlist_BadHalves, kit_notE eti_BadHalves ett_BadHalves etdict_BadHalves⟩, by simp only [tys, List.mem_cons, List.not_mem_nil, or_false, forall_eq_or_imp, forall_eq]; exact ⟨kit_notE eti_BadLook ett_BadLook etNoneType_BadLook, kit_notE eti_BadLook ett_BadLook etbool_BadLook, kit_notE eti_BadLook ett_BadLook etint_BadLook, kit_notE eti_BadLook ett_BadLook etstr_BadLook, kit_notE eti_BadLook ett_BadLook ettuple_BadLook, kit_notE eti_BadLook ett_BadLook etlist_BadLook, kit_notE eti_BadLook ett_BadLook etdict_BadLook⟩, by simp only [tys, List.mem_cons, List.not_mem_nil, or_false, forall_eq_or_imp, forall_eq]; exact ⟨kit_notE eti_BadNumber ett_BadNumber etNoneType_BadNumber, kit_notE eti_BadNumber ett_BadNumber etbool_BadNumber, kit_notE eti_BadNumber ett_BadNumber etint_BadNumber, kit_notE eti_BadNumber ett_BadNumber etstr_BadNumber, kit_notE eti_BadNumber ett_BadNumber ettuple_BadNumber, kit_notE eti_BadNumber ett_BadNumber etlist_BadNumber, kit_notE eti_BadNumber ett_BadNumber etdict_BadNumber⟩, by simp only [tys, List.mem_cons, List.not_mem_nil, or_false, forall_eq_or_imp, forall_eq]; exact ⟨kit_notE eti_BadSpeed ett_BadSpeed etNoneType_BadSpeed, kit_notE eti_BadSpeed ett_BadSpeed etbool_BadSpeed, kit_notE eti_BadSpeed ett_BadSpeed etint_BadSpeed, kit_notE eti_BadSpeed ett_BadSpeed etstr_BadSpeed, kit_notE eti_BadSpeed ett_BadSpeed ettuple_BadSpeed, kit_notE eti_BadSpeed ett_BadSpeed etlist_BadSpeed, kit_notE eti_BadSpeed ett_BadSpeed etdict_BadSpeed⟩, by simp only [tys, List.mem_cons, List.not_mem_nil, or_false, forall_eq_or_imp, forall_eq]; exact ⟨kit_notE eti_BadStretch ett_BadStretch etNoneType_BadStretch, kit_notE eti_BadStretch ett_BadStretch etbool_BadStretch, kit_notE eti_BadStretch ett_BadStretch etint_BadStretch, kit_notE eti_BadStretch ett_BadStretch etstr_BadStretch, kit_notE eti_BadStretch ett_BadStretch ettuple_BadStretch, kit_notE eti_BadStretch ett_BadStretch etlist_BadStretch, kit_notE eti_BadStretch ett_BadStretch etdict_BadStretch⟩, by simp only [tys, List.mem_cons, List.not_mem_nil, or_false, forall_eq_or_imp, forall_eq]; exact ⟨kit_notE eti_Clash ett_Clash etNoneType_Clash, kit_notE eti_Clash ett_Clash etbool_Clash, kit_notE eti_Clash ett_Clash etint_Clash, kit_notE eti_Clash ett_Clash etstr_Clash, kit_notE eti_Clash ett_Clash ettuple_Clash, kit_notE eti_Clash ett_Clash etlist_Clash, kit_notE eti_Clash ett_Clash etdict_Clash⟩, by simp only [tys, List.mem_cons, List.not_mem_nil, or_false, forall_eq_or_imp, forall_eq]; exact ⟨kit_notE eti_TooGreat ett_TooGreat etNoneType_TooGreat, kit_notE eti_TooGreat ett_TooGreat etbool_TooGreat, kit_notE eti_TooGreat ett_TooGreat etint_TooGreat, kit_notE eti_TooGreat ett_TooGreat etstr_TooGreat, kit_notE eti_TooGreat ett_TooGreat ettuple_TooGreat, kit_notE eti_TooGreat ett_TooGreat etlist_TooGreat, kit_notE eti_TooGreat ett_TooGreat etdict_TooGreat⟩, xi_BadGroups_BadGroups, xi_BadGroups_BadHalf, xi_BadGroups_BadHalves, xi_BadGroups_BadLook, xi_BadGroups_BadNumber, xi_BadGroups_BadSpeed, xi_BadGroups_BadStretch, xi_BadGroups_Clash, xi_BadGroups_TooGreat, xi_BadHalf_BadGroups, xi_BadHalf_BadHalf, xi_BadHalf_BadHalves, xi_BadHalf_BadLook, xi_BadHalf_BadNumber, xi_BadHalf_BadSpeed, xi_BadHalf_BadStretch, xi_BadHalf_Clash, xi_BadHalf_TooGreat, xi_BadHalves_BadGroups, xi_BadHalves_BadHalf, xi_BadHalves_BadHalves, xi_BadHalves_BadLook, xi_BadHalves_BadNumber, xi_BadHalves_BadSpeed, xi_BadHalves_BadStretch, xi_BadHalves_Clash, xi_BadHalves_TooGreat, xi_BadLook_BadGroups, xi_BadLook_BadHalf, xi_BadLook_BadHalves, xi_BadLook_BadLook, xi_BadLook_BadNumber, xi_BadLook_BadSpeed, xi_BadLook_BadStretch, xi_BadLook_Clash, xi_BadLook_TooGreat, xi_BadNumber_BadGroups, xi_BadNumber_BadHalf, xi_BadNumber_BadHalves, xi_BadNumber_BadLook, xi_BadNumber_BadNumber, xi_BadNumber_BadSpeed, xi_BadNumber_BadStretch, xi_BadNumber_Clash, xi_BadNumber_TooGreat, xi_BadSpeed_BadGroups, xi_BadSpeed_BadHalf, xi_BadSpeed_BadHalves, xi_BadSpeed_BadLook, xi_BadSpeed_BadNumber, xi_BadSpeed_BadSpeed, xi_BadSpeed_BadStretch, xi_BadSpeed_Clash, xi_BadSpeed_TooGreat, xi_BadStretch_BadGroups, xi_BadStretch_BadHalf, xi_BadStretch_BadHalves, xi_BadStretch_BadLook, xi_BadStretch_BadNumber, xi_BadStretch_BadSpeed, xi_BadStretch_BadStretch, xi_BadStretch_Clash, xi_BadStretch_TooGreat, xi_Clash_BadGroups, xi_Clash_BadHalf, xi_Clash_BadHalves, xi_Clash_BadLook, xi_Clash_BadNumber, xi_Clash_BadSpeed, xi_Clash_BadStretch, xi_Clash_Clash, xi_Clash_TooGreat, xi_TooGreat_BadGroups, xi_TooGreat_BadHalf, xi_TooGreat_BadHalves, xi_TooGreat_BadLook, xi_TooGreat_BadNumber, xi_TooGreat_BadSpeed, xi_TooGreat_BadStretch, xi_TooGreat_Clash, xi_TooGreat_TooGreat, xf_BadGroups_at, xf_BadHalves_at, xf_BadLook_at, xf_TooGreat_most, ⟨tc0, rfl, hTB _ List.mem_cons_self⟩, D0, D1, D2, D3, D4, D5, D6, D7, D8, D9, D10, D11, D12, D13, D14, D15, D16, D17, D18, D19, D20, D21⟩
  exact ⟨(PySem.W.fnOf "law" "law" (defArgs s_law) (defBody s_law) (defScope s_law) .none kV21 dc21 pm21 an21 (.ref tc0) ct21), [Mk.mk tc0 tP0 ((("law" : Str) ++ ".<locals>.") ++ "<lambda>")], fun s u => .of_eq rfl, List.forall_mem_cons.mpr ⟨tH0, fun _ h => nomatch h⟩, List.forall_mem_cons.mpr ⟨PySem.W.codeHd_of_K X tC0, fun _ h => nomatch h⟩, List.forall_mem_cons.mpr ⟨tN0, fun _ h => nomatch h⟩, List.pairwise_singleton _ _, fun base _ _ hTB => ok_law (T base hTB)⟩
end Px
open PySem PySem.W PyProof.Rows
set_option maxHeartbeats 0 in
theorem PySem.Challenge.cw_flashfolds_k19_halves_and_stretches_refu_holds : PySem.Challenge.rw_flashfolds_k19_halves_and_stretches_refu.Holds := by
  w_on; o_law; k_head; (case hw => w_witness2)
  k_fill
  refine Px.walk_gT (l := PySem.Challenge.rw_flashfolds_k19_halves_and_stretches_refu) (k := 12) (x := "_law_script") rfl rfl ⟨rfl, by decide, by decide⟩ (fun w h Y => PySem.W.km_in_of Y) ?G
  case G =>
    intro w mg fa h KX Y G hmg
    have hT8 := PySem.W.km_tabs_of Y
    refine' Px.all_mk KX G hmg ?gx_BadGroups ?gx_BadHalf ?gx_BadHalves ?gx_BadLook ?gx_BadNumber ?gx_BadSpeed ?gx_BadStretch ?gx_Clash ?gx_FlashError ?gx_TooGreat ?bm_BadGroups ?hm_BadGroups ?tm_BadGroups ?bm_BadHalf ?hm_BadHalf ?tm_BadHalf ?bm_BadHalves ?hm_BadHalves ?tm_BadHalves ?bm_BadLook ?hm_BadLook ?tm_BadLook ?bm_BadNumber ?hm_BadNumber ?tm_BadNumber ?bm_BadSpeed ?hm_BadSpeed ?tm_BadSpeed ?bm_BadStretch ?hm_BadStretch ?tm_BadStretch ?bm_Clash ?hm_Clash ?tm_Clash ?bm_FlashError ?hm_FlashError ?tm_FlashError ?bm_TooGreat ?hm_TooGreat ?tm_TooGreat ?sm_BadGroups_FlashError ?sm_BadHalf_FlashError ?sm_BadHalves_FlashError ?sm_BadLook_FlashError ?sm_BadNumber_FlashError ?sm_BadSpeed_FlashError ?sm_BadStretch_FlashError ?sm_Clash_FlashError ?sm_TooGreat_FlashError ?eccl_BadGroups ?ecga_BadGroups ?ecgt_BadGroups ?ecsu_BadGroups ?echd_BadGroups ?ecca_BadGroups ?eccn_BadGroups ?ecct_BadGroups ?eccm_BadGroups ?eccl_BadHalf ?ecga_BadHalf ?ecgt_BadHalf ?ecsu_BadHalf ?echd_BadHalf ?ecca_BadHalf ?eccn_BadHalf ?ecct_BadHalf ?eccm_BadHalf ?eccl_BadHalves ?ecga_BadHalves ?ecgt_BadHalves ?ecsu_BadHalves ?echd_BadHalves ?ecca_BadHalves ?eccn_BadHalves ?ecct_BadHalves ?eccm_BadHalves ?eccl_BadLook ?ecga_BadLook ?ecgt_BadLook ?ecsu_BadLook ?echd_BadLook ?ecca_BadLook ?eccn_BadLook ?ecct_BadLook ?eccm_BadLook ?eccl_BadNumber ?ecga_BadNumber ?ecgt_BadNumber ?ecsu_BadNumber ?echd_BadNumber ?ecca_BadNumber ?eccn_BadNumber ?ecct_BadNumber ?eccm_BadNumber ?eccl_BadSpeed ?ecga_BadSpeed ?ecgt_BadSpeed ?ecsu_BadSpeed ?echd_BadSpeed ?ecca_BadSpeed ?eccn_BadSpeed ?ecct_BadSpeed ?eccm_BadSpeed ?eccl_BadStretch ?ecga_BadStretch ?ecgt_BadStretch ?ecsu_BadStretch ?echd_BadStretch ?ecca_BadStretch ?eccn_BadStretch ?ecct_BadStretch ?eccm_BadStretch ?eccl_Clash ?ecga_Clash ?ecgt_Clash ?ecsu_Clash ?echd_Clash ?ecca_Clash ?eccn_Clash ?ecct_Clash ?eccm_Clash ?eccl_TooGreat ?ecga_TooGreat ?ecgt_TooGreat ?ecsu_TooGreat ?echd_TooGreat ?ecca_TooGreat ?eccn_TooGreat ?ecct_TooGreat ?eccm_TooGreat ?etNoneType_BadGroups ?etbool_BadGroups ?etint_BadGroups ?etstr_BadGroups ?ettuple_BadGroups ?etlist_BadGroups ?etdict_BadGroups ?eti_BadGroups ?ett_BadGroups ?etNoneType_BadHalf ?etbool_BadHalf ?etint_BadHalf ?etstr_BadHalf ?ettuple_BadHalf ?etlist_BadHalf ?etdict_BadHalf ?eti_BadHalf ?ett_BadHalf ?etNoneType_BadHalves ?etbool_BadHalves ?etint_BadHalves ?etstr_BadHalves ?ettuple_BadHalves ?etlist_BadHalves ?etdict_BadHalves ?eti_BadHalves ?ett_BadHalves ?etNoneType_BadLook ?etbool_BadLook ?etint_BadLook ?etstr_BadLook ?ettuple_BadLook ?etlist_BadLook ?etdict_BadLook ?eti_BadLook ?ett_BadLook ?etNoneType_BadNumber ?etbool_BadNumber ?etint_BadNumber ?etstr_BadNumber ?ettuple_BadNumber ?etlist_BadNumber ?etdict_BadNumber ?eti_BadNumber ?ett_BadNumber ?etNoneType_BadSpeed ?etbool_BadSpeed ?etint_BadSpeed ?etstr_BadSpeed ?ettuple_BadSpeed ?etlist_BadSpeed ?etdict_BadSpeed ?eti_BadSpeed ?ett_BadSpeed ?etNoneType_BadStretch ?etbool_BadStretch ?etint_BadStretch ?etstr_BadStretch ?ettuple_BadStretch ?etlist_BadStretch ?etdict_BadStretch ?eti_BadStretch ?ett_BadStretch ?etNoneType_Clash ?etbool_Clash ?etint_Clash ?etstr_Clash ?ettuple_Clash ?etlist_Clash ?etdict_Clash ?eti_Clash ?ett_Clash ?etNoneType_TooGreat ?etbool_TooGreat ?etint_TooGreat ?etstr_TooGreat ?ettuple_TooGreat ?etlist_TooGreat ?etdict_TooGreat ?eti_TooGreat ?ett_TooGreat ?xi_BadGroups_BadGroups ?xi_BadGroups_BadHalf ?xi_BadGroups_BadHalves ?xi_BadGroups_BadLook ?xi_BadGroups_BadNumber ?xi_BadGroups_BadSpeed ?xi_BadGroups_BadStretch ?xi_BadGroups_Clash ?xi_BadGroups_TooGreat ?xi_BadHalf_BadGroups ?xi_BadHalf_BadHalf ?xi_BadHalf_BadHalves ?xi_BadHalf_BadLook ?xi_BadHalf_BadNumber ?xi_BadHalf_BadSpeed ?xi_BadHalf_BadStretch ?xi_BadHalf_Clash ?xi_BadHalf_TooGreat ?xi_BadHalves_BadGroups ?xi_BadHalves_BadHalf ?xi_BadHalves_BadHalves ?xi_BadHalves_BadLook ?xi_BadHalves_BadNumber ?xi_BadHalves_BadSpeed ?xi_BadHalves_BadStretch ?xi_BadHalves_Clash ?xi_BadHalves_TooGreat ?xi_BadLook_BadGroups ?xi_BadLook_BadHalf ?xi_BadLook_BadHalves ?xi_BadLook_BadLook ?xi_BadLook_BadNumber ?xi_BadLook_BadSpeed ?xi_BadLook_BadStretch ?xi_BadLook_Clash ?xi_BadLook_TooGreat ?xi_BadNumber_BadGroups ?xi_BadNumber_BadHalf ?xi_BadNumber_BadHalves ?xi_BadNumber_BadLook ?xi_BadNumber_BadNumber ?xi_BadNumber_BadSpeed ?xi_BadNumber_BadStretch ?xi_BadNumber_Clash ?xi_BadNumber_TooGreat ?xi_BadSpeed_BadGroups ?xi_BadSpeed_BadHalf ?xi_BadSpeed_BadHalves ?xi_BadSpeed_BadLook ?xi_BadSpeed_BadNumber ?xi_BadSpeed_BadSpeed ?xi_BadSpeed_BadStretch ?xi_BadSpeed_Clash ?xi_BadSpeed_TooGreat ?xi_BadStretch_BadGroups ?xi_BadStretch_BadHalf ?xi_BadStretch_BadHalves ?xi_BadStretch_BadLook ?xi_BadStretch_BadNumber ?xi_BadStretch_BadSpeed ?xi_BadStretch_BadStretch ?xi_BadStretch_Clash ?xi_BadStretch_TooGreat ?xi_Clash_BadGroups ?xi_Clash_BadHalf ?xi_Clash_BadHalves ?xi_Clash_BadLook ?xi_Clash_BadNumber ?xi_Clash_BadSpeed ?xi_Clash_BadStretch ?xi_Clash_Clash ?xi_Clash_TooGreat ?xi_TooGreat_BadGroups ?xi_TooGreat_BadHalf ?xi_TooGreat_BadHalves ?xi_TooGreat_BadLook ?xi_TooGreat_BadNumber ?xi_TooGreat_BadSpeed ?xi_TooGreat_BadStretch ?xi_TooGreat_Clash ?xi_TooGreat_TooGreat ?xf_BadGroups_at ?xf_BadHalves_at ?xf_BadLook_at ?xf_TooGreat_most ?xc_BadHalves ?xr_BadHalves ?xs_BadHalves ?xb_BadHalves ?xt_BadHalves ?xk_BadHalves ?xi_BadHalves ?xf_BadHalves ?xl_BadHalves ?xo_BadHalves ?xd_BadHalves ?xv_BadHalves ?xp_BadHalves ?xe_BadHalves ?xu_BadHalves ?xw_BadHalves ?xm_BadHalves ?xn_BadHalves ?x_opq ?x_top ?tH0 ?tC0 ?tN0 ?xx_BadNumber ?kx_BadNumber ?bx_BadNumber ?tx_BadNumber ?xx_BadStretch ?kx_BadStretch ?bx_BadStretch ?tx_BadStretch ?z_abs ?z_all ?z_bool ?z_divmod ?z_enumerate ?z_int ?z_isinstance ?z_len ?z_list ?z_min ?z_range ?z_repr ?z_sorted ?z_super ?z_tuple ?c_GREATEST ?c_GREATEST_HALF ?c_MOST_HALVES ?a0 ?l0 ?c0 ?k0 ?a1 ?l1 ?c1 ?k1 ?a2 ?l2 ?c2 ?k2 ?a3 ?l3 ?c3 ?k3 ?a4 ?l4 ?c4 ?k4 ?a5 ?l5 ?c5 ?k5 ?a6 ?l6 ?c6 ?k6 ?a7 ?l7 ?c7 ?k7 ?a8 ?l8 ?c8 ?k8 ?a9 ?l9 ?c9 ?k9 ?a10 ?l10 ?c10 ?k10 ?a11 ?l11 ?c11 ?k11 ?a12 ?l12 ?c12 ?k12 ?a13 ?l13 ?c13 ?k13 ?a14 ?l14 ?c14 ?k14 ?a15 ?l15 ?c15 ?k15 ?a16 ?l16 ?c16 ?k16 ?a17 ?l17 ?c17 ?k17 ?a18 ?l18 ?c18 ?k18 ?a19 ?l19 ?c19 ?k19 ?a20 ?l20 ?c20 ?k20 ?a21 ?l21 ?c21 ?k21
    (case gx_BadGroups => k_is)
    (case gx_BadHalf => k_is)
    (case gx_BadHalves => k_is)
    (case gx_BadLook => k_is)
    (case gx_BadNumber => k_is)
    (case gx_BadSpeed => k_is)
    (case gx_BadStretch => k_is)
    (case gx_Clash => k_is)
    (case gx_FlashError => k_is)
    (case gx_TooGreat => k_is)
    (case bm_BadGroups => k_is)
    (case hm_BadGroups => k_is)
    (case tm_BadGroups => k_is)
    (case bm_BadHalf => k_is)
    (case hm_BadHalf => k_is)
    (case tm_BadHalf => k_is)
    (case bm_BadHalves => k_is)
    (case hm_BadHalves => k_is)
    (case tm_BadHalves => k_is)
    (case bm_BadLook => k_is)
    (case hm_BadLook => k_is)
    (case tm_BadLook => k_is)
    (case bm_BadNumber => k_is)
    (case hm_BadNumber => k_is)
    (case tm_BadNumber => k_is)
    (case bm_BadSpeed => k_is)
    (case hm_BadSpeed => k_is)
    (case tm_BadSpeed => k_is)
    (case bm_BadStretch => k_is)
    (case hm_BadStretch => k_is)
    (case tm_BadStretch => k_is)
    (case bm_Clash => k_is)
    (case hm_Clash => k_is)
    (case tm_Clash => k_is)
    (case bm_FlashError => k_is)
    (case hm_FlashError => k_is)
    (case tm_FlashError => k_is)
    (case bm_TooGreat => k_is)
    (case hm_TooGreat => k_is)
    (case tm_TooGreat => k_is)
    (case sm_BadGroups_FlashError => k_is)
    (case sm_BadHalf_FlashError => k_is)
    (case sm_BadHalves_FlashError => k_is)
    (case sm_BadLook_FlashError => k_is)
    (case sm_BadNumber_FlashError => k_is)
    (case sm_BadSpeed_FlashError => k_is)
    (case sm_BadStretch_FlashError => k_is)
    (case sm_Clash_FlashError => k_is)
    (case sm_TooGreat_FlashError => k_is)
    (case eccl_BadGroups => k_is)
    (case ecga_BadGroups => k_is)
    (case ecgt_BadGroups => k_is)
    (case ecsu_BadGroups => k_is)
    (case echd_BadGroups => k_is)
    (case ecca_BadGroups => k_is)
    (case eccn_BadGroups => k_is)
    (case ecct_BadGroups => k_is)
    (case eccm_BadGroups => k_is)
    (case eccl_BadHalf => k_is)
    (case ecga_BadHalf => k_is)
    (case ecgt_BadHalf => k_is)
    (case ecsu_BadHalf => k_is)
    (case echd_BadHalf => k_is)
    (case ecca_BadHalf => k_is)
    (case eccn_BadHalf => k_is)
    (case ecct_BadHalf => k_is)
    (case eccm_BadHalf => k_is)
    (case eccl_BadHalves => k_is)
    (case ecga_BadHalves => k_is)
    (case ecgt_BadHalves => k_is)
    (case ecsu_BadHalves => k_is)
    (case echd_BadHalves => k_is)
    (case ecca_BadHalves => k_is)
    (case eccn_BadHalves => k_is)
    (case ecct_BadHalves => k_is)
    (case eccm_BadHalves => k_is)
    (case eccl_BadLook => k_is)
    (case ecga_BadLook => k_is)
    (case ecgt_BadLook => k_is)
    (case ecsu_BadLook => k_is)
    (case echd_BadLook => k_is)
    (case ecca_BadLook => k_is)
    (case eccn_BadLook => k_is)
    (case ecct_BadLook => k_is)
    (case eccm_BadLook => k_is)
    (case eccl_BadNumber => k_is)
    (case ecga_BadNumber => k_is)
    (case ecgt_BadNumber => k_is)
    (case ecsu_BadNumber => k_is)
    (case echd_BadNumber => k_is)
    (case ecca_BadNumber => k_is)
    (case eccn_BadNumber => k_is)
    (case ecct_BadNumber => k_is)
    (case eccm_BadNumber => k_is)
    (case eccl_BadSpeed => k_is)
    (case ecga_BadSpeed => k_is)
    (case ecgt_BadSpeed => k_is)
    (case ecsu_BadSpeed => k_is)
    (case echd_BadSpeed => k_is)
    (case ecca_BadSpeed => k_is)
    (case eccn_BadSpeed => k_is)
    (case ecct_BadSpeed => k_is)
    (case eccm_BadSpeed => k_is)
    (case eccl_BadStretch => k_is)
    (case ecga_BadStretch => k_is)
    (case ecgt_BadStretch => k_is)
    (case ecsu_BadStretch => k_is)
    (case echd_BadStretch => k_is)
    (case ecca_BadStretch => k_is)
    (case eccn_BadStretch => k_is)
    (case ecct_BadStretch => k_is)
    (case eccm_BadStretch => k_is)
    (case eccl_Clash => k_is)
    (case ecga_Clash => k_is)
    (case ecgt_Clash => k_is)
    (case ecsu_Clash => k_is)
    (case echd_Clash => k_is)
    (case ecca_Clash => k_is)
    (case eccn_Clash => k_is)
    (case ecct_Clash => k_is)
    (case eccm_Clash => k_is)
    (case eccl_TooGreat => k_is)
    (case ecga_TooGreat => k_is)
    (case ecgt_TooGreat => k_is)
    (case ecsu_TooGreat => k_is)
    (case echd_TooGreat => k_is)
    (case ecca_TooGreat => k_is)
    (case eccn_TooGreat => k_is)
    (case ecct_TooGreat => k_is)
    (case eccm_TooGreat => k_is)
    (case etNoneType_BadGroups => k_is)
    (case etbool_BadGroups => k_is)
    (case etint_BadGroups => k_is)
    (case etstr_BadGroups => k_is)
    (case ettuple_BadGroups => k_is)
    (case etlist_BadGroups => k_is)
    (case etdict_BadGroups => k_is)
    (case eti_BadGroups => k_is)
    (case ett_BadGroups => k_is)
    (case etNoneType_BadHalf => k_is)
    (case etbool_BadHalf => k_is)
    (case etint_BadHalf => k_is)
    (case etstr_BadHalf => k_is)
    (case ettuple_BadHalf => k_is)
    (case etlist_BadHalf => k_is)
    (case etdict_BadHalf => k_is)
    (case eti_BadHalf => k_is)
    (case ett_BadHalf => k_is)
    (case etNoneType_BadHalves => k_is)
    (case etbool_BadHalves => k_is)
    (case etint_BadHalves => k_is)
    (case etstr_BadHalves => k_is)
    (case ettuple_BadHalves => k_is)
    (case etlist_BadHalves => k_is)
    (case etdict_BadHalves => k_is)
    (case eti_BadHalves => k_is)
    (case ett_BadHalves => k_is)
    (case etNoneType_BadLook => k_is)
    (case etbool_BadLook => k_is)
    (case etint_BadLook => k_is)
    (case etstr_BadLook => k_is)
    (case ettuple_BadLook => k_is)
    (case etlist_BadLook => k_is)
    (case etdict_BadLook => k_is)
    (case eti_BadLook => k_is)
    (case ett_BadLook => k_is)
    (case etNoneType_BadNumber => k_is)
    (case etbool_BadNumber => k_is)
    (case etint_BadNumber => k_is)
    (case etstr_BadNumber => k_is)
    (case ettuple_BadNumber => k_is)
    (case etlist_BadNumber => k_is)
    (case etdict_BadNumber => k_is)
    (case eti_BadNumber => k_is)
    (case ett_BadNumber => k_is)
    (case etNoneType_BadSpeed => k_is)
    (case etbool_BadSpeed => k_is)
    (case etint_BadSpeed => k_is)
    (case etstr_BadSpeed => k_is)
    (case ettuple_BadSpeed => k_is)
    (case etlist_BadSpeed => k_is)
    (case etdict_BadSpeed => k_is)
    (case eti_BadSpeed => k_is)
    (case ett_BadSpeed => k_is)
    (case etNoneType_BadStretch => k_is)
    (case etbool_BadStretch => k_is)
    (case etint_BadStretch => k_is)
    (case etstr_BadStretch => k_is)
    (case ettuple_BadStretch => k_is)
    (case etlist_BadStretch => k_is)
    (case etdict_BadStretch => k_is)
    (case eti_BadStretch => k_is)
    (case ett_BadStretch => k_is)
    (case etNoneType_Clash => k_is)
    (case etbool_Clash => k_is)
    (case etint_Clash => k_is)
    (case etstr_Clash => k_is)
    (case ettuple_Clash => k_is)
    (case etlist_Clash => k_is)
    (case etdict_Clash => k_is)
    (case eti_Clash => k_is)
    (case ett_Clash => k_is)
    (case etNoneType_TooGreat => k_is)
    (case etbool_TooGreat => k_is)
    (case etint_TooGreat => k_is)
    (case etstr_TooGreat => k_is)
    (case ettuple_TooGreat => k_is)
    (case etlist_TooGreat => k_is)
    (case etdict_TooGreat => k_is)
    (case eti_TooGreat => k_is)
    (case ett_TooGreat => k_is)
    (case xi_BadGroups_BadGroups => kernel_rfl)
    (case xi_BadGroups_BadHalf => kernel_rfl)
    (case xi_BadGroups_BadHalves => kernel_rfl)
    (case xi_BadGroups_BadLook => kernel_rfl)
    (case xi_BadGroups_BadNumber => kernel_rfl)
    (case xi_BadGroups_BadSpeed => kernel_rfl)
    (case xi_BadGroups_BadStretch => kernel_rfl)
    (case xi_BadGroups_Clash => kernel_rfl)
    (case xi_BadGroups_TooGreat => kernel_rfl)
    (case xi_BadHalf_BadGroups => kernel_rfl)
    (case xi_BadHalf_BadHalf => kernel_rfl)
    (case xi_BadHalf_BadHalves => kernel_rfl)
    (case xi_BadHalf_BadLook => kernel_rfl)
    (case xi_BadHalf_BadNumber => kernel_rfl)
    (case xi_BadHalf_BadSpeed => kernel_rfl)
    (case xi_BadHalf_BadStretch => kernel_rfl)
    (case xi_BadHalf_Clash => kernel_rfl)
    (case xi_BadHalf_TooGreat => kernel_rfl)
    (case xi_BadHalves_BadGroups => kernel_rfl)
    (case xi_BadHalves_BadHalf => kernel_rfl)
    (case xi_BadHalves_BadHalves => kernel_rfl)
    (case xi_BadHalves_BadLook => kernel_rfl)
    (case xi_BadHalves_BadNumber => kernel_rfl)
    (case xi_BadHalves_BadSpeed => kernel_rfl)
    (case xi_BadHalves_BadStretch => kernel_rfl)
    (case xi_BadHalves_Clash => kernel_rfl)
    (case xi_BadHalves_TooGreat => kernel_rfl)
    (case xi_BadLook_BadGroups => kernel_rfl)
    (case xi_BadLook_BadHalf => kernel_rfl)
    (case xi_BadLook_BadHalves => kernel_rfl)
    (case xi_BadLook_BadLook => kernel_rfl)
    (case xi_BadLook_BadNumber => kernel_rfl)
    (case xi_BadLook_BadSpeed => kernel_rfl)
    (case xi_BadLook_BadStretch => kernel_rfl)
    (case xi_BadLook_Clash => kernel_rfl)
    (case xi_BadLook_TooGreat => kernel_rfl)
    (case xi_BadNumber_BadGroups => kernel_rfl)
    (case xi_BadNumber_BadHalf => kernel_rfl)
    (case xi_BadNumber_BadHalves => kernel_rfl)
    (case xi_BadNumber_BadLook => kernel_rfl)
    (case xi_BadNumber_BadNumber => kernel_rfl)
    (case xi_BadNumber_BadSpeed => kernel_rfl)
    (case xi_BadNumber_BadStretch => kernel_rfl)
    (case xi_BadNumber_Clash => kernel_rfl)
    (case xi_BadNumber_TooGreat => kernel_rfl)
    (case xi_BadSpeed_BadGroups => kernel_rfl)
    (case xi_BadSpeed_BadHalf => kernel_rfl)
    (case xi_BadSpeed_BadHalves => kernel_rfl)
    (case xi_BadSpeed_BadLook => kernel_rfl)
    (case xi_BadSpeed_BadNumber => kernel_rfl)
    (case xi_BadSpeed_BadSpeed => kernel_rfl)
    (case xi_BadSpeed_BadStretch => kernel_rfl)
    (case xi_BadSpeed_Clash => kernel_rfl)
    (case xi_BadSpeed_TooGreat => kernel_rfl)
    (case xi_BadStretch_BadGroups => kernel_rfl)
    (case xi_BadStretch_BadHalf => kernel_rfl)
    (case xi_BadStretch_BadHalves => kernel_rfl)
    (case xi_BadStretch_BadLook => kernel_rfl)
    (case xi_BadStretch_BadNumber => kernel_rfl)
    (case xi_BadStretch_BadSpeed => kernel_rfl)
    (case xi_BadStretch_BadStretch => kernel_rfl)
    (case xi_BadStretch_Clash => kernel_rfl)
    (case xi_BadStretch_TooGreat => kernel_rfl)
    (case xi_Clash_BadGroups => kernel_rfl)
    (case xi_Clash_BadHalf => kernel_rfl)
    (case xi_Clash_BadHalves => kernel_rfl)
    (case xi_Clash_BadLook => kernel_rfl)
    (case xi_Clash_BadNumber => kernel_rfl)
    (case xi_Clash_BadSpeed => kernel_rfl)
    (case xi_Clash_BadStretch => kernel_rfl)
    (case xi_Clash_Clash => kernel_rfl)
    (case xi_Clash_TooGreat => kernel_rfl)
    (case xi_TooGreat_BadGroups => kernel_rfl)
    (case xi_TooGreat_BadHalf => kernel_rfl)
    (case xi_TooGreat_BadHalves => kernel_rfl)
    (case xi_TooGreat_BadLook => kernel_rfl)
    (case xi_TooGreat_BadNumber => kernel_rfl)
    (case xi_TooGreat_BadSpeed => kernel_rfl)
    (case xi_TooGreat_BadStretch => kernel_rfl)
    (case xi_TooGreat_Clash => kernel_rfl)
    (case xi_TooGreat_TooGreat => kernel_rfl)
    (case xf_BadGroups_at => k_is)
    (case xf_BadHalves_at => k_is)
    (case xf_BadLook_at => k_is)
    (case xf_TooGreat_most => k_is)
    (case xc_BadHalves => k_is)
    (case xr_BadHalves => decide +kernel)
    (case xs_BadHalves => k_is)
    (case xb_BadHalves => k_is)
    (case xt_BadHalves => k_is)
    (case xk_BadHalves => k_is)
    (case xi_BadHalves => k_is)
    (case xf_BadHalves => k_is)
    (case xl_BadHalves => k_is)
    (case xo_BadHalves => k_is)
    (case xd_BadHalves => k_is)
    (case xv_BadHalves => exact rfl)
    (case xp_BadHalves => first | exact rfl | decide +kernel)
    (case xe_BadHalves => k_is)
    (case xu_BadHalves => kernel_rfl)
    (case xw_BadHalves => k_is)
    (case xm_BadHalves => kernel_rfl)
    (case xn_BadHalves => k_is)
    (case x_opq => k_is)
    (case x_top => first | exact rfl | decide +kernel)
    (case tH0 => exact hT8 _ List.mem_cons_self)
    (case tC0 => kernel_rfl)
    (case tN0 => kernel_rfl)
    (case xx_BadNumber => k_exc)
    (case kx_BadNumber => k_is)
    (case bx_BadNumber => k_is)
    (case tx_BadNumber => k_is)
    (case xx_BadStretch => k_exc)
    (case kx_BadStretch => k_is)
    (case bx_BadStretch => k_is)
    (case tx_BadStretch => k_is)
    (case z_abs => k_is)
    (case z_all => k_is)
    (case z_bool => k_is)
    (case z_divmod => k_is)
    (case z_enumerate => k_is)
    (case z_int => k_is)
    (case z_isinstance => k_is)
    (case z_len => k_is)
    (case z_list => k_is)
    (case z_min => k_is)
    (case z_range => k_is)
    (case z_repr => k_is)
    (case z_sorted => k_is)
    (case z_super => k_is)
    (case z_tuple => k_is)
    (case c_GREATEST => exact ⟨_, by k_is⟩)
    (case c_GREATEST_HALF => exact ⟨_, by k_is⟩)
    (case c_MOST_HALVES => exact ⟨_, by k_is⟩)
    (case a0 => k_is)
    (case l0 => k_is)
    (case c0 => k_is)
    (case k0 => k_is)
    (case a1 => k_is)
    (case l1 => k_is)
    (case c1 => k_is)
    (case k1 => k_is)
    (case a2 => k_is)
    (case l2 => k_is)
    (case c2 => k_is)
    (case k2 => k_is)
    (case a3 => k_is)
    (case l3 => k_is)
    (case c3 => k_is)
    (case k3 => k_is)
    (case a4 => k_is)
    (case l4 => k_is)
    (case c4 => k_is)
    (case k4 => k_is)
    (case a5 => k_is)
    (case l5 => k_is)
    (case c5 => k_is)
    (case k5 => k_is)
    (case a6 => k_is)
    (case l6 => k_is)
    (case c6 => k_is)
    (case k6 => k_is)
    (case a7 => k_is)
    (case l7 => k_is)
    (case c7 => k_is)
    (case k7 => k_is)
    (case a8 => k_is)
    (case l8 => k_is)
    (case c8 => k_is)
    (case k8 => k_is)
    (case a9 => k_is)
    (case l9 => k_is)
    (case c9 => k_is)
    (case k9 => k_is)
    (case a10 => k_is)
    (case l10 => k_is)
    (case c10 => k_is)
    (case k10 => k_is)
    (case a11 => k_is)
    (case l11 => k_is)
    (case c11 => k_is)
    (case k11 => k_is)
    (case a12 => k_is)
    (case l12 => k_is)
    (case c12 => k_is)
    (case k12 => k_is)
    (case a13 => k_is)
    (case l13 => k_is)
    (case c13 => k_is)
    (case k13 => k_is)
    (case a14 => k_is)
    (case l14 => k_is)
    (case c14 => k_is)
    (case k14 => k_is)
    (case a15 => k_is)
    (case l15 => k_is)
    (case c15 => k_is)
    (case k15 => k_is)
    (case a16 => k_is)
    (case l16 => k_is)
    (case c16 => k_is)
    (case k16 => k_is)
    (case a17 => k_is)
    (case l17 => k_is)
    (case c17 => k_is)
    (case k17 => k_is)
    (case a18 => k_is)
    (case l18 => k_is)
    (case c18 => k_is)
    (case k18 => k_is)
    (case a19 => k_is)
    (case l19 => k_is)
    (case c19 => k_is)
    (case k19 => k_is)
    (case a20 => k_is)
    (case l20 => k_is)
    (case c20 => k_is)
    (case k20 => k_is)
    (case a21 => k_is)
    (case l21 => k_is)
    (case c21 => k_is)
    (case k21 => k_is)

