import PyProof.Rows.All
import Wide.All
import OpenK.AllK
import Wide.FinOn
import HandS.ForMost
import HandS.Wide
import HandS.WideBits
import HandS.IsInst
import HandS.Exc
import HandS.ExcOwn
import HandS.TryOnly
import HandS.WordsExc
import HandS.Conv
import KE.KDictKeyed
import HandS.TupAny
import HandS.TupMul
import HandS.Flow
import HandS.Style
import HandS.Small
import HandS.Iter
import HandS.TupSets
import KE.GoesEnum
import PyProof.ReprRoads
import PyProof.ReprLen
import HandS.SortRule
import HandS.SetBool
import HandS.Strs
import PySem.Challenge.RW_flashfolds_k80_whole_bands_alone_and_sca
set_option Elab.async false
set_option linter.all false
set_option maxRecDepth 100000
namespace Px
open PySem PySem.Spec PyProof.Rows L2

/-! ## plain data -/
inductive D where
  | non | bl (b : Bool) | int (i : Int) | str (s : Str)
  | tup (l : List D) | lst (l : List D)
  | dic (ks : List Key) (l : List D)
  | obj (C : Addr) (ns : List Str) (l : List D)
  | raw (v : V)
  | scr (ns : List Int)

section
variable (K : PySem.W.Frag) (F : Hp)
mutual
def Rp : D → V → Prop
  | .non, v => v = .non
  | .bl b, v => v = .bl b
  | .int i, v => v = .int i
  | .str s, v => v = .str s
  | .tup l, v => ∃ a xs, v = .ref a ∧ SqT K F a xs ∧ RpL l xs
  | .lst l, v => ∃ a xs, v = .ref a ∧ F a = some (.lst xs) ∧ RpL l xs
  | .dic ks l, v => ∃ a kvs, v = .ref a ∧ Rd F a (.dK kvs) ∧ kvs.map (·.1) = ks ∧ RpL l (kvs.map (·.2))
  | .obj C ns l, v => ∃ a dx fs, v = .ref a ∧ F a = some (.ins C dx fs) ∧ fs.map (·.1) = ns ∧ RpL l (fs.map (·.2))
  | .raw w, v => v = w
  | .scr ns, v => ∃ a, v = .ref a ∧ SqL K F a (ns.map V.int)
def RpL : List D → List V → Prop
  | [], xs => xs = []
  | d :: ds, xs => ∃ x r, xs = x :: r ∧ Rp d x ∧ RpL ds r
end
end
section
variable {K : PySem.W.Frag} {F F' : Hp}
theorem same_rd {a : Addr} {u : HO} (e : Same F F') (h : Rd F a u) : Rd F' a u := by
  rcases h with h | ⟨o, h⟩
  · exact .inl (e a _ h)
  · exact .inr ⟨o, e a _ h⟩
theorem same_l {a : Addr} {xs : List V} (e : Same F F') (h : SqL K F a xs) : SqL K F' a xs := h.elim (fun h => .inl (same_rd e h)) .inr
theorem same_t {a : Addr} {xs : List V} (e : Same F F') (h : SqT K F a xs) : SqT K F' a xs := h.elim (fun h => .inl (same_rd e h)) .inr
mutual
theorem Rp.mono (e : Same F F') : ∀ (d : D) (v : V), Rp K F d v → Rp K F' d v
  | .non, _, h => h
  | .bl _, _, h => h
  | .int _, _, h => h
  | .str _, _, h => h
  | .tup l, _, ⟨a, xs, e1, s, r⟩ => ⟨a, xs, e1, same_t e s, RpL.mono e l xs r⟩
  | .lst l, _, ⟨a, xs, e1, s, r⟩ => ⟨a, xs, e1, e _ _ s, RpL.mono e l xs r⟩
  | .dic _ l, _, ⟨a, xs, e1, s, k, r⟩ => ⟨a, xs, e1, same_rd e s, k, RpL.mono e l _ r⟩
  | .obj _ _ l, _, ⟨a, dx, fs, e1, s, k, r⟩ => ⟨a, dx, fs, e1, e _ _ s, k, RpL.mono e l _ r⟩
  | .raw _, _, h => h
  | .scr _, _, ⟨a, e1, s⟩ => ⟨a, e1, same_l e s⟩
theorem RpL.mono (e : Same F F') : ∀ (ds : List D) (xs : List V), RpL K F ds xs → RpL K F' ds xs
  | [], _, h => h
  | d :: ds, _, ⟨x, r, e1, h, t⟩ => ⟨x, r, e1, Rp.mono e d x h, RpL.mono e ds r t⟩
end
theorem RpL.len : ∀ {ds : List D} {xs : List V}, RpL K F ds xs → ds.length = xs.length
  | [], _, h => by rw [h]; rfl
  | d :: ds, _, ⟨x, r, e1, _, t⟩ => by rw [e1, List.length_cons, List.length_cons, RpL.len t]
theorem RpL.app : ∀ {ds es : List D} {xs ys : List V}, RpL K F ds xs → RpL K F es ys → RpL K F (ds ++ es) (xs ++ ys)
  | [], _, _, _, h, t => by rw [h]; exact t
  | d :: ds, _, _, _, ⟨x, r, e1, h, t⟩, q => by rw [e1]; exact ⟨x, _, rfl, h, RpL.app t q⟩
theorem RpL.get : ∀ {ds : List D} {xs : List V} {i : Nat} {d : D}, RpL K F ds xs → ds[i]? = some d → ∃ x, xs[i]? = some x ∧ Rp K F d x
  | [], _, _, _, _, e => by simp at e
  | d :: ds, _, 0, _, ⟨x, r, e1, h, _⟩, e => by
    have e2 : d = _ := Option.some.inj e
    exact ⟨x, by rw [e1]; rfl, e2 ▸ h⟩
  | d :: ds, _, i + 1, _, ⟨x, r, e1, _, t⟩, e => by
    obtain ⟨y, h1, h2⟩ := RpL.get (i := i) t (by simpa using e)
    exact ⟨y, by rw [e1]; simpa using h1, h2⟩
theorem RpL.get' : ∀ {ds : List D} {xs : List V} {i : Nat} {x : V}, RpL K F ds xs → xs[i]? = some x → ∃ d, ds[i]? = some d ∧ Rp K F d x
  | [], _, _, _, h, e => by rw [h] at e; simp at e
  | d :: ds, _, 0, _, ⟨x, r, e1, h, _⟩, e => by
    rw [e1] at e
    have e2 : x = _ := Option.some.inj e
    exact ⟨d, rfl, e2 ▸ h⟩
  | d :: ds, _, i + 1, _, ⟨x, r, e1, _, t⟩, e => by
    rw [e1] at e
    obtain ⟨y, h1, h2⟩ := RpL.get' (i := i) t (by simpa using e)
    exact ⟨y, by simpa using h1, h2⟩
theorem RpL.drop : ∀ {ds : List D} {xs : List V} (i : Nat), RpL K F ds xs → RpL K F (ds.drop i) (xs.drop i)
  | _, _, 0, h => h
  | [], _, i + 1, h => by rw [h]; exact rfl
  | d :: ds, _, i + 1, ⟨x, r, e1, _, t⟩ => by rw [e1]; exact RpL.drop i t
theorem RpL.take : ∀ {ds : List D} {xs : List V} (i : Nat), RpL K F ds xs → RpL K F (ds.take i) (xs.take i)
  | _, _, 0, h => rfl
  | [], _, i + 1, h => by rw [h]; exact rfl
  | d :: ds, _, i + 1, ⟨x, r, e1, h, t⟩ => by rw [e1]; exact ⟨x, _, rfl, h, RpL.take i t⟩
theorem RpL.set : ∀ {ds : List D} {xs : List V} {d : D} {x : V} (i : Nat), RpL K F ds xs → Rp K F d x → RpL K F (ds.set i d) (xs.set i x)
  | [], _, _, _, _, h, _ => by rw [h]; exact rfl
  | _ :: ds, _, _, _, 0, ⟨x, r, e1, _, t⟩, q => by rw [e1]; exact ⟨_, _, rfl, q, t⟩
  | _ :: ds, _, _, _, i + 1, ⟨x, r, e1, h, t⟩, q => by rw [e1]; exact ⟨x, _, rfl, h, RpL.set i t q⟩
theorem RpL.ints : ∀ {ns : List Int} {xs : List V}, RpL K F (ns.map .int) xs → xs = ns.map V.int
  | [], _, h => h
  | n :: ns, _, ⟨x, r, e1, h, t⟩ => by rw [e1, show x = V.int n from h, RpL.ints t]; rfl
theorem RpL.of_ints : ∀ (ns : List Int), RpL K F (ns.map .int) (ns.map V.int)
  | [] => rfl
  | n :: ns => ⟨_, _, rfl, rfl, RpL.of_ints ns⟩
theorem RpL.bls : ∀ {ns : List Bool} {xs : List V}, RpL K F (ns.map .bl) xs → xs = ns.map V.bl
  | [], _, h => h
  | n :: ns, _, ⟨x, r, e1, h, t⟩ => by rw [e1, show x = V.bl n from h, RpL.bls t]; rfl
end

/-! ## the state -/
/-- what a slot holds: data, or a list that it alone holds (it may still be changed) -/
inductive Sv where
  | val (d : D) | own (l : List D)
/-- things that change: a draw -/
inductive Mo where
  | draw
  /-- a dict, its keys ints, None, bools and tuples of such -/
  | dct (kvs : List (D × D))
  /-- a list -/
  | lst (l : List D)
  /-- a dict with int and text keys -/
  | dik (kvs : List (Key × D))
  /-- an instance of an own class, its attributes -/
  | ins (C : Addr) (fs : List (Str × D))
abbrev Mm := Addr → Option Mo
inductive Ow where
  | slot (i : Nat) | obj (a : Addr) | tmp
abbrev Rho := List (Option Sv)
abbrev Own := Addr → Option Ow
def gt : Rho → Nat → Option Sv
  | [], _ => none
  | x :: _, 0 => x
  | _ :: r, n + 1 => gt r n
def st : Rho → Nat → Sv → Rho
  | [], _, _ => []
  | _ :: r, 0, y => some y :: r
  | x :: r, n + 1, y => x :: st r n y
theorem st_len : ∀ (ρ : Rho) (i : Nat) (y : Sv), (st ρ i y).length = ρ.length
  | [], _, _ => rfl
  | _ :: r, 0, _ => rfl
  | x :: r, n + 1, y => by show (st r n y).length + 1 = _; rw [st_len r n y]; rfl
theorem gt_lt : ∀ {ρ : Rho} {i : Nat} {y : Sv}, gt ρ i = some y → i < ρ.length
  | [], _, _, h => by cases h
  | _ :: r, 0, _, _ => Nat.succ_pos _
  | x :: r, n + 1, y, h => Nat.succ_lt_succ (gt_lt (ρ := r) h)
theorem gt_st_ne : ∀ {ρ : Rho} {i j : Nat} {y : Sv}, j ≠ i → gt (st ρ i y) j = gt ρ j
  | [], _, _, _, _ => rfl
  | _ :: r, 0, 0, _, h => absurd rfl h
  | _ :: r, 0, j + 1, _, _ => rfl
  | x :: r, n + 1, 0, _, _ => rfl
  | x :: r, n + 1, j + 1, y, h => gt_st_ne (ρ := r) fun e => h (by rw [e])
theorem gt_st_self : ∀ {ρ : Rho} {i : Nat} {y z : Sv}, gt (st ρ i y) i = some z → z = y
  | [], _, _, _, h => by cases h
  | _ :: r, 0, _, _, h => (Option.some.inj h).symm
  | x :: r, n + 1, y, z, h => gt_st_self (ρ := r) h

section
variable (K : PySem.W.Frag)
def SvOk (F : Hp) (H : Hp) (O : Own) (i : Nat) : Sv → V → Prop
  | .val d, v => Rp K F d v
  | .own l, v => ∃ p xs, v = .ref p ∧ H p = some (.lst xs) ∧ RpL K F l xs ∧ O p = some (.slot i)
def drawKeys (l : Addr) (c : V) (rest turn mix : Int) : List (Key × V) :=
  [(.inr "large", .ref l), (.inr "cells", c), (.inr "rest", .int rest), (.inr "turn", .int turn), (.inr "mix", .int mix)]
mutual
/-- data as a key -/
def nkOf : D → Option NestedKey
  | .non => some .none
  | .bl b => some (.num (if b = true then 1 else 0))
  | .int i => some (.num i)
  | .tup l => (nkOfL l).map .tup
  | .str _ | .lst _ | .dic _ _ | .obj _ _ _ | .raw _ | .scr _ => none
def nkOfL : List D → Option (List NestedKey)
  | [] => some []
  | d :: r => match nkOf d, nkOfL r with
    | some a, some b => some (a :: b)
    | _, _ => none
end
mutual
/-- no text within -/
def ntK : NestedKey → Bool
  | .none => true
  | .num _ => true
  | .text _ => false
  | .tup ks => ntKL ks
def ntKL : List NestedKey → Bool
  | [] => true
  | k :: r => ntK k && ntKL r
end
abbrev KEnts := List (NestedKey × Addr × Value)
/-- the dict object at p, by its entries: the keys' own objects stand elsewhere -/
def dkP (p : Addr) (xs : KEnts) (h : Heap) : Prop := (p == sysModules) = false ∧ (∀ x ∈ xs, ntK x.1 = true) ∧ (xs.map (·.1)).Nodup ∧ ∃ o es ep, h.get? p = some o ∧ o.ExactDict ∧ o.data = .dict es ep ∧
  ∀ w : World, es.toList = xs.map fun x => ⟨x.1.hash w, .ref x.2.1, x.2.2⟩
def dkO (p : Addr) (xs : KEnts) : HO := .ext (dkP p xs)
def DRel (F : Hp) : List (D × D) → KEnts → Prop
  | [], xs => xs = []
  | p :: r, xs => ∃ x ys v, xs = x :: ys ∧ nkOf p.1 = some x.1 ∧ x.1.depth ≤ 8 ∧ Rp K F p.1 (.ref x.2.1) ∧ Rp K F p.2 v ∧ RelV v x.2.2 ∧ DRel F r ys
def MoOk (F : Hp) (H : Hp) (O : Own) (a : Addr) : Mo → Prop
  | .dct kvs => ∃ xs, H a = some (dkO a xs) ∧ O a = some (.obj a) ∧ kvs.length ≤ 1000000 ∧ DRel K F kvs xs
  | .lst l => ∃ xs, H a = some (.lst xs) ∧ O a = some (.obj a) ∧ RpL K F l xs
  | .dik kvs => ∃ ys, H a = some (.dK ys) ∧ O a = some (.obj a) ∧ ys.map (·.1) = kvs.map (·.1) ∧ RpL K F (kvs.map (·.2)) (ys.map (·.2))
  | .ins C fs => ∃ dx ys, H a = some (.ins C dx ys) ∧ O a = some (.obj a) ∧ ys.map (·.1) = fs.map (·.1) ∧ RpL K F (fs.map (·.2)) (ys.map (·.2))
  | .draw => ∃ (l : Addr) (big cells : List Int) (c : V) (rest turn mix : Int), H a = some (.dK (drawKeys l c rest turn mix)) ∧ H l = some (.lst (big.map V.int)) ∧ Rp K F (.lst (cells.map .int)) c ∧
      O a = some (.obj a) ∧ O l = some (.obj a) ∧ big.length ≤ 63 ∧ cells.length ≤ 63 ∧ 0 ≤ mix ∧ mix < 2147483629
/-- where a def was entered -/
structure Gh where
  H0 : Hp
  F0 : Hp
  own0 : Addr → Prop
  /-- lists that are being made -/
  tmp : List (Addr × List D) := []
structure Wd (g : Gh) (H : Hp) (M : Mm) (F : Hp) (O : Own) : Prop where
  sub : Same F H
  ext0 : Same g.F0 F
  new : ∀ a o, F a = some o → g.F0 a = some o ∨ g.H0 a = none
  frm : ∀ a o, g.H0 a = some o → ¬ g.own0 a → H a = some o
  thr : ∀ a o, g.H0 a = some o → ∃ o', H a = some o'
  liv : ∀ a o, O a = some o → (∃ x, H a = some x) ∧ F a = none ∧ (g.own0 a ∨ g.H0 a = none)
  slo : ∀ a o, O a = some o → (∀ m, o ≠ .obj m) → g.H0 a = none
  tm : ∀ p l, (p, l) ∈ g.tmp → ∃ xs, H p = some (.lst xs) ∧ RpL K F l xs ∧ O p = some .tmp
  mu : ∀ a mo, M a = some mo → MoOk K F H O a mo
structure Ab (g : Gh) (σ : L2.St) (H : Hp) (ρ : Rho) (M : Mm) (F : Hp) (O : Own) : Prop extends Wd K g H M F O where
  len : ρ.length = σ.length
  sl : ∀ i sv, gt ρ i = some sv → ∃ v, σ[i]? = some (some v) ∧ SvOk K F H O i sv v
end
/-- an exception as plain data: its class, its own attributes -/
def ExOk (K : PySem.W.Frag) (F : Hp) (d : Option Addr) (fs : List (Str × D)) : Prop :=
  match d with
  | none => fs = []
  | some a => ∃ ys : List (Str × V), F a = some (.xd ys) ∧ ys.map (·.1) = fs.map (·.1) ∧ RpL K F (fs.map (·.2)) (ys.map (·.2))

/-! ## readings over plain data -/
abbrev PQ := D → Mm → Prop
abbrev PX := Value → List (Str × D) → Mm → Prop
abbrev PWi := Value → List (Str × D) → Rho → Mm → Prop
abbrev PTE := PWi → Rho → Mm → PQ → Prop
abbrev PTT := PWi → Rho → Mm → (Bool → Mm → Prop) → Prop
abbrev PTA := PWi → Rho → Mm → (List D → Mm → Prop) → Prop
structure PEnds where
  nx : Rho → Mm → Prop
  rt : D → Mm → Prop
  bk : Rho → Mm → Prop := fun _ _ => False
  ct : Rho → Mm → Prop := fun _ _ => False
  /-- a new list is returned, nobody else's -/
  rl : List D → Mm → Prop := fun _ _ => False
abbrev PTS := PWi → PEnds → Rho → Mm → Prop

def WOk (K : PySem.W.Frag) (g : Gh) (F : Hp) (W : WX) (w : PWi) : Prop :=
  ∀ cls dd σ H ρ M F' O fs, Ab K g σ H ρ M F' O → Same F F' → ExOk K F' dd fs → w cls fs ρ M → W cls dd σ H
theorem WOk.mono {K : PySem.W.Frag} {g : Gh} {F F' : Hp} {W : WX} {w : PWi} (h : WOk K g F W w) (e : Same F F') : WOk K g F' W w :=
  fun cls dd σ H ρ M F2 O fs a s x y => h cls dd σ H ρ M F2 O fs a (e.trans s) x y

def real (K : PySem.W.Frag) (W : WX) (p : PTE) : TE := fun σ H Q => ∃ g ρ M F O q w, Ab K g σ H ρ M F O ∧ p w ρ M q ∧ WOk K g F W w ∧
  ∀ v H' F' O' M' d, Ab K g σ H' ρ M' F' O' → Same F F' → Rp K F' d v → q d M' → Q v H'
def realT (K : PySem.W.Frag) (W : WX) (p : PTT) : TT := fun σ H Q => ∃ g ρ M F O q w, Ab K g σ H ρ M F O ∧ p w ρ M q ∧ WOk K g F W w ∧
  ∀ b H' F' O' M', Ab K g σ H' ρ M' F' O' → Same F F' → q b M' → Q b H'
def realA (K : PySem.W.Frag) (W : WX) (p : PTA) : TA := fun σ H Q => ∃ g ρ M F O q w, Ab K g σ H ρ M F O ∧ p w ρ M q ∧ WOk K g F W w ∧
  ∀ vs H' F' O' M' ds, Ab K g σ H' ρ M' F' O' → Same F F' → RpL K F' ds vs → q ds M' → Q vs H'
def realS (K : PySem.W.Frag) (W : WX) (p : PTS) : TS := fun D σ H => ∃ g ρ M F O P w, Ab K g σ H ρ M F O ∧ p w P ρ M ∧ WOk K g F W w ∧
  (∀ σ' H' ρ' M' F' O', Ab K g σ' H' ρ' M' F' O' → Same F F' → P.nx ρ' M' → D.nx σ' H') ∧
  (∀ v σ' H' ρ' M' F' O' d, Ab K g σ' H' ρ' M' F' O' → Same F F' → Rp K F' d v → P.rt d M' → D.rt v H') ∧
  (∀ σ' H' ρ' M' F' O', Ab K g σ' H' ρ' M' F' O' → Same F F' → P.bk ρ' M' → D.bk σ' H') ∧
  (∀ σ' H' ρ' M' F' O', Ab K g σ' H' ρ' M' F' O' → Same F F' → P.ct ρ' M' → D.ct σ' H') ∧
  (∀ a xs σ' H' ρ' M' F' O' ds, Ab K g σ' H' ρ' M' F' O' → Same F F' → H' a = some (.lst xs) → RpL K F' ds xs → F' a = none → O' a = none → g.H0 a = none → P.rl ds M' → D.rt (.ref a) H')

abbrev DE (X : Cx) (W : WX) (e : Expr) (p : PTE) : Prop := PE X e (real X.K W p)
abbrev DT (X : Cx) (W : WX) (e : Expr) (p : PTT) : Prop := PT X e (realT X.K W p)
abbrev DA (X : Cx) (W : WX) (es : List Expr) (p : PTA) : Prop := PA X es (realA X.K W p)
abbrev DS (X : Cx) (W : WX) (s : Stmt) (p : PTS) : Prop := PS X s (realS X.K W p)
abbrev DSs (X : Cx) (W : WX) (s : List Stmt) (p : PTS) : Prop := PSs X s (realS X.K W p)
section
variable {X : Cx} {e : Expr} {t t' : TE} {es : List Expr} {s : Stmt} {ss : List Stmt}
theorem pe_imp (h : PE X e t) (i : ∀ σ H Q, t' σ H Q → t σ H Q) : PE X e t' := ⟨fun pins s σ H Q I hw => h.run pins s σ H Q I (i σ H Q hw)⟩
theorem pt_imp {t t' : TT} (h : PT X e t) (i : ∀ σ H Q, t' σ H Q → t σ H Q) : PT X e t' := ⟨fun pins s σ H Q I hw => h.run pins s σ H Q I (i σ H Q hw)⟩
theorem pw_imp {t t' : TT} (h : L2.PW X e t) (i : ∀ σ H Q, t' σ H Q → t σ H Q) : L2.PW X e t' := ⟨fun wh pins s σ H Q I hw => h.run wh pins s σ H Q I (i σ H Q hw)⟩
theorem pa_imp {t t' : TA} (h : PA X es t) (i : ∀ σ H Q, t' σ H Q → t σ H Q) : PA X es t' := ⟨fun pos pins s σ H Q I hw => h.run pos pins s σ H Q I (i σ H Q hw)⟩
theorem ps_imp {t t' : TS} (h : PS X s t) (i : ∀ D σ H, t' D σ H → t D σ H) : PS X s t' := ⟨fun pins s σ H D I hw => h.run pins s σ H D I (i D σ H hw)⟩
theorem pss_imp {t t' : TS} (h : PSs X ss t) (i : ∀ D σ H, t' D σ H → t D σ H) : PSs X ss t' := ⟨fun pins s σ H D I hw => h.run pins s σ H D I (i D σ H hw)⟩
end
end Px

set_option Elab.async false
set_option linter.all false
set_option maxRecDepth 100000
namespace Px
open PySem PySem.Spec PyProof.Rows L2

/-! ## how the state goes on -/
section
variable {K : PySem.W.Frag} {g : Gh} {σ : L2.St} {H H' : Hp} {ρ : Rho} {M : Mm} {F F' : Hp} {O O' : Own} {a p : Addr} {o : HO} {i : Nat}
theorem SvOk.mono {sv : Sv} {v : V} (e : Same F F') (k : ∀ p xs, H p = some (.lst xs) → O p = some (.slot i) → H' p = some (.lst xs) ∧ O' p = some (.slot i)) (h : SvOk K F H O i sv v) : SvOk K F' H' O' i sv v := by
  cases sv with
  | val d => exact Rp.mono e d v h
  | own l =>
    obtain ⟨p, xs, e1, e2, r, e3⟩ := h
    obtain ⟨k1, k2⟩ := k p xs e2 e3
    exact ⟨p, xs, e1, k1, RpL.mono e l xs r, k2⟩
theorem DRel.mono (e : Same F F') : ∀ (kvs : List (D × D)) (xs : KEnts), DRel K F kvs xs → DRel K F' kvs xs
  | [], _, h => h
  | p :: r, _, ⟨x, ys, v, e1, e2, e3, e4, e5, e6, e7⟩ => ⟨x, ys, v, e1, e2, e3, Rp.mono e _ _ e4, Rp.mono e _ _ e5, e6, DRel.mono e r ys e7⟩
theorem MoOk.mono {mo : Mo} (e : Same F F') (k : ∀ p u, H p = some u → O p = some (.obj a) → H' p = some u ∧ O' p = some (.obj a)) (h : MoOk K F H O a mo) : MoOk K F' H' O' a mo := by
  cases mo with
  | dct kvs =>
    obtain ⟨xs, h1, h2, h3, h4⟩ := h
    exact ⟨xs, (k _ _ h1 h2).1, (k _ _ h1 h2).2, h3, DRel.mono e _ _ h4⟩
  | lst l =>
    obtain ⟨xs, h1, h2, h3⟩ := h
    exact ⟨xs, (k _ _ h1 h2).1, (k _ _ h1 h2).2, RpL.mono e _ _ h3⟩
  | dik kvs =>
    obtain ⟨ys, h1, h2, h3, h4⟩ := h
    exact ⟨ys, (k _ _ h1 h2).1, (k _ _ h1 h2).2, h3, RpL.mono e _ _ h4⟩
  | ins C fs =>
    obtain ⟨dx, ys, h1, h2, h3, h4⟩ := h
    exact ⟨dx, ys, (k _ _ h1 h2).1, (k _ _ h1 h2).2, h3, RpL.mono e _ _ h4⟩
  | draw =>
    obtain ⟨l, big, cells, c, rest, turn, mix, h1, h2, h3, h4, h5, h6⟩ := h
    exact ⟨l, big, cells, c, rest, turn, mix, (k _ _ h1 h4).1, (k _ _ h2 h5).1, Rp.mono e _ _ h3, (k _ _ h1 h4).2, (k _ _ h2 h5).2, h6⟩
theorem Wd.g0 (A : Wd K g H M F O) (h : H p = none) : g.H0 p = none := by
  cases e : g.H0 p with
  | none => rfl
  | some o =>
    obtain ⟨o', z⟩ := A.thr p o e
    rw [h] at z
    cases z
theorem Wd.f0 (A : Wd K g H M F O) (h : H p = none) : F p = none := by
  cases e : F p with
  | none => rfl
  | some o => rw [A.sub p o e] at h; cases h
theorem Wd.o0 (A : Wd K g H M F O) (h : H p = none) : O p = none := by
  cases e : O p with
  | none => rfl
  | some o =>
    obtain ⟨⟨x, z⟩, _⟩ := A.liv p o e
    rw [h] at z
    cases z
theorem MoOk.at {mo : Mo} {p : Addr} (h : MoOk K F H O p mo) : ∃ u, H p = some u := by
  cases mo with
  | draw => obtain ⟨_, _, _, _, _, _, _, q1, _⟩ := h; exact ⟨_, q1⟩
  | dct kvs => obtain ⟨_, q1, _⟩ := h; exact ⟨_, q1⟩
  | lst l => obtain ⟨_, q1, _⟩ := h; exact ⟨_, q1⟩
  | dik kvs => obtain ⟨_, q1, _⟩ := h; exact ⟨_, q1⟩
  | ins C fs => obtain ⟨_, _, q1, _⟩ := h; exact ⟨_, q1⟩
theorem Wd.m0 (A : Wd K g H M F O) (h : H p = none) : M p = none := by
  cases z : M p with
  | none => rfl
  | some mo =>
    obtain ⟨u, e⟩ := (A.mu p mo z).at
    rw [h] at e; cases e
/-- a new object, tracked, not yet anybody's -/
theorem Ab.laid (A : Ab K g σ H ρ M F O) (h : H p = none) : Ab K g σ (upd H p o) ρ M F O := by
  have ne : ∀ b u, H b = some u → b ≠ p := fun b u e z => by rw [z, h] at e; cases e
  have up : ∀ b u, H b = some u → upd H p o b = some u := fun b u e => by rw [upd_ne (ne b u e)]; exact e
  exact { sub := fun b u e => up b u (A.sub b u e), ext0 := A.ext0, new := A.new, frm := fun b u e n => up b u (A.frm b u e n), thr := fun b u e => by
            obtain ⟨o', z⟩ := A.thr b u e
            exact ⟨o', up b o' z⟩
          liv := fun b u e => by
            obtain ⟨⟨x, z⟩, r⟩ := A.liv b u e
            exact ⟨⟨x, up b x z⟩, r⟩
          slo := A.slo, tm := fun q l e => by
            obtain ⟨xs, e1, e2, e3⟩ := A.tm q l e
            exact ⟨xs, up q _ e1, e2, e3⟩
          mu := fun b mo e => (A.mu b mo e).mono (Same.refl F) fun q u e1 e2 => ⟨up q u e1, e2⟩, len := A.len, sl := fun j sv e => by
            obtain ⟨v, e1, r⟩ := A.sl j sv e
            exact ⟨v, e1, r.mono (Same.refl F) fun q xs e1 e2 => ⟨up q _ e1, e2⟩⟩ }
theorem same_new (h : F p = none) : Same F (upd F p o) := fun b u e => by
  rw [upd_ne (fun z => by rw [z, h] at e; cases e)]
  exact e
/-- a tracked object that is nobody's stays as it is from now on -/
theorem Ab.freeze (A : Ab K g σ H ρ M F O) (h : H p = some o) (hF : F p = none) (hO : O p = none) (h0 : g.H0 p = none) : Ab K g σ H ρ M (upd F p o) O := by
  have s : Same F (upd F p o) := same_new hF
  exact { sub := fun b u e => by
            by_cases z : b = p
            · subst z; rw [upd_same] at e; rw [h]; exact e
            · rw [upd_ne z] at e; exact A.sub b u e
          ext0 := A.ext0.trans s, new := fun b u e => by
            by_cases z : b = p
            · subst z; exact .inr h0
            · rw [upd_ne z] at e; exact A.new b u e
          frm := A.frm, thr := A.thr, liv := fun b u e => by
            obtain ⟨r1, r2, r3⟩ := A.liv b u e
            refine ⟨r1, ?_, r3⟩
            rw [upd_ne (fun z => by rw [z, hO] at e; cases e)]
            exact r2
          slo := A.slo, tm := fun q l e => by
            obtain ⟨xs, e1, e2, e3⟩ := A.tm q l e
            exact ⟨xs, e1, RpL.mono s _ _ e2, e3⟩
          mu := fun b mo e => (A.mu b mo e).mono s fun q u e1 e2 => ⟨e1, e2⟩, len := A.len, sl := fun j sv e => by
            obtain ⟨v, e1, r⟩ := A.sl j sv e
            exact ⟨v, e1, r.mono s fun q xs e1 e2 => ⟨e1, e2⟩⟩ }
/-- a new object that stays as it is -/
theorem Ab.lay (A : Ab K g σ H ρ M F O) (h : H p = none) : Ab K g σ (upd H p o) ρ M (upd F p o) O :=
  (A.laid h).freeze upd_same (A.f0 h) (A.o0 h) (A.g0 h)
theorem Ab.gt_lt (A : Ab K g σ H ρ M F O) {sv : Sv} (e : gt ρ i = some sv) : i < σ.length := by
  rw [← A.len]
  exact Px.gt_lt e
theorem set_same {x : V} (h : i < σ.length) : (σ.set i (some x))[i]? = some (some x) := List.getElem?_set_self h
theorem gt_st_lt {sv y : Sv} (e : gt (st ρ i y) i = some sv) : i < ρ.length := by rw [← st_len ρ i y]; exact Px.gt_lt e
/-- a slot is given data -/
theorem Ab.put {d : D} {v : V} (A : Ab K g σ H ρ M F O) (r : Rp K F d v) : Ab K g (σ.set i (some v)) H (st ρ i (.val d)) M F O :=
  { toWd := A.toWd, len := by rw [st_len, List.length_set]; exact A.len, sl := fun j sv e => by
      by_cases z : j = i
      · subst z
        have e2 := gt_st_self e
        subst e2
        exact ⟨v, set_same (by rw [← A.len]; exact gt_st_lt e), r⟩
      · rw [gt_st_ne z] at e
        obtain ⟨u, e1, q⟩ := A.sl j sv e
        exact ⟨u, by rw [List.getElem?_set_ne (Ne.symm z)]; exact e1, q⟩ }
/-- a slot is given a list of its own, that is nobody's -/
theorem Ab.putOwn {l : List D} {xs : List V} (A : Ab K g σ H ρ M F O) (h : H p = some (.lst xs)) (r : RpL K F l xs) (hF : F p = none) (hO : O p = none) (h0 : g.H0 p = none) :
    Ab K g (σ.set i (some (.ref p))) H (st ρ i (.own l)) M F (fun b => if b = p then some (.slot i) else O b) := by
  have keep : ∀ b u, O b = some u → (if b = p then some (Ow.slot i) else O b) = some u := fun b u e => by rw [if_neg (fun z => by rw [z, hO] at e; cases e)]; exact e
  exact { sub := A.sub, ext0 := A.ext0, new := A.new, frm := A.frm, thr := A.thr
          liv := fun b u e => by
            by_cases z : b = p
            · subst z; exact ⟨⟨_, h⟩, hF, .inr h0⟩
            · rw [if_neg z] at e; exact A.liv b u e
          slo := fun b j e n => by
            by_cases z : b = p
            · subst z; exact h0
            · rw [if_neg z] at e; exact A.slo b j e n
          tm := fun q l e => by
            obtain ⟨xs, e1, e2, e3⟩ := A.tm q l e
            exact ⟨xs, e1, e2, keep q _ e3⟩
          mu := fun b mo e => (A.mu b mo e).mono (Same.refl F) fun q u e1 e2 => ⟨e1, keep q _ e2⟩
          len := by rw [st_len, List.length_set]; exact A.len
          sl := fun j sv e => by
            by_cases z : j = i
            · subst z
              have e2 := gt_st_self e
              subst e2
              exact ⟨.ref p, set_same (by rw [← A.len]; exact gt_st_lt e), p, xs, rfl, h, r, if_pos rfl⟩
            · rw [gt_st_ne z] at e
              obtain ⟨u, e1, q⟩ := A.sl j sv e
              exact ⟨u, by rw [List.getElem?_set_ne (Ne.symm z)]; exact e1, q.mono (Same.refl F) fun q xs e1 e2 => ⟨e1, keep q _ e2⟩⟩ }
/-- a slot's own list is changed -/
theorem Ab.chg {l l' : List D} {xs ys : List V} (A : Ab K g σ H ρ M F O) (hi : gt ρ i = some (.own l)) (hp : σ[i]? = some (some (.ref p))) (hO : O p = some (.slot i)) (r : RpL K F l' ys) :
    Ab K g σ (upd H p (.lst ys)) (st ρ i (.own l')) M F O := by
  have ne : ∀ b u, O b = some u → u ≠ .slot i → b ≠ p := fun b u e n z => by rw [z, hO] at e; exact n (Option.some.inj e).symm
  obtain ⟨⟨ox, hx⟩, hF, _⟩ := A.liv p _ hO
  exact { sub := fun b u e => by rw [upd_ne (fun z => by rw [z, hF] at e; cases e)]; exact A.sub b u e
          ext0 := A.ext0, new := A.new
          frm := fun b u e n => by rw [upd_ne (fun z => by rw [z, A.slo p _ hO (fun _ z => by cases z)] at e; cases e)]; exact A.frm b u e n
          thr := fun b u e => by rw [upd_ne (fun z => by rw [z, A.slo p _ hO (fun _ z => by cases z)] at e; cases e)]; exact A.thr b u e
          liv := fun b u e => by
            obtain ⟨r1, r2⟩ := A.liv b u e
            refine ⟨?_, r2⟩
            by_cases z : b = p
            · subst z; exact ⟨_, upd_same⟩
            · rw [upd_ne z]; exact r1
          slo := A.slo
          tm := fun q l e => by
            obtain ⟨xs, e1, e2, e3⟩ := A.tm q l e
            exact ⟨xs, by rw [upd_ne (ne q _ e3 (fun z => by cases z))]; exact e1, e2, e3⟩
          mu := fun b mo e => (A.mu b mo e).mono (Same.refl F) fun q u e1 e2 => ⟨by rw [upd_ne (ne q _ e2 (fun z => by cases z))]; exact e1, e2⟩
          len := by rw [st_len]; exact A.len
          sl := fun j sv e => by
            by_cases z : j = i
            · subst z
              have e2 := gt_st_self e
              subst e2
              exact ⟨.ref p, hp, p, ys, rfl, upd_same, r, hO⟩
            · rw [gt_st_ne z] at e
              obtain ⟨u, e1, q⟩ := A.sl j sv e
              exact ⟨u, e1, q.mono (Same.refl F) fun q xs e1 e2 => ⟨by rw [upd_ne (ne q _ e2 (fun y => z (by cases y; rfl)))]; exact e1, e2⟩⟩ }
/-- a slot's own list stays as it is from now on -/
theorem Ab.frz {l : List D} (A : Ab K g σ H ρ M F O) (hi : gt ρ i = some (.own l)) : ∃ F' O', Ab K g σ H (st ρ i (.val (.lst l))) M F' O' ∧ Same F F' := by
  obtain ⟨v, hv, p, xs, rfl, hp, r, hO⟩ := A.sl i _ hi
  obtain ⟨_, hF, _⟩ := A.liv p _ hO
  have s : Same F (upd F p (.lst xs)) := same_new hF
  have ne : ∀ b u, O b = some u → u ≠ .slot i → b ≠ p := fun b u e n z => by rw [z, hO] at e; exact n (Option.some.inj e).symm
  refine ⟨upd F p (.lst xs), fun b => if b = p then none else O b, ?_, s⟩
  exact { sub := fun b u e => by
            by_cases z : b = p
            · subst z; rw [upd_same] at e; rw [hp]; exact e
            · rw [upd_ne z] at e; exact A.sub b u e
          ext0 := A.ext0.trans s
          new := fun b u e => by
            by_cases z : b = p
            · subst z; exact .inr (A.slo _ _ hO (fun _ z => by cases z))
            · rw [upd_ne z] at e; exact A.new b u e
          frm := A.frm, thr := A.thr
          liv := fun b u e => by
            by_cases z : b = p
            · rw [if_pos z] at e; cases e
            · rw [if_neg z] at e
              obtain ⟨r1, r2, r3⟩ := A.liv b u e
              exact ⟨r1, by rw [upd_ne z]; exact r2, r3⟩
          slo := fun b j e n => by
            by_cases z : b = p
            · rw [if_pos z] at e; cases e
            · rw [if_neg z] at e; exact A.slo b j e n
          tm := fun q l e => by
            obtain ⟨xs, e1, e2, e3⟩ := A.tm q l e
            exact ⟨xs, e1, RpL.mono s _ _ e2, by rw [if_neg (ne q _ e3 (fun z => by cases z))]; exact e3⟩
          mu := fun b mo e => (A.mu b mo e).mono s fun q u e1 e2 => ⟨e1, by rw [if_neg (ne q _ e2 (fun z => by cases z))]; exact e2⟩
          len := by rw [st_len]; exact A.len
          sl := fun j sv e => by
            by_cases z : j = i
            · subst z
              have e2 := gt_st_self e
              subst e2
              exact ⟨.ref p, hv, p, xs, rfl, upd_same, RpL.mono s l xs r⟩
            · rw [gt_st_ne z] at e
              obtain ⟨u, e1, q⟩ := A.sl j sv e
              exact ⟨u, e1, q.mono s fun q xs e1 e2 => ⟨e1, by rw [if_neg (ne q _ e2 (fun y => z (by cases y; rfl)))]; exact e2⟩⟩ }
end

/-! ## what may be looked at: data, or a slot's own list -/
def Vw (K : PySem.W.Frag) (σ : L2.St) (ρ : Rho) (F : Hp) (d : D) (v : V) : Prop :=
  Rp K F d v ∨ ∃ i l p, gt ρ i = some (.own l) ∧ σ[i]? = some (some (.ref p)) ∧ v = .ref p ∧ d = .lst l
section
variable {K : PySem.W.Frag} {g : Gh} {σ : L2.St} {H : Hp} {ρ : Rho} {M : Mm} {F F' : Hp} {O : Own} {d : D} {v : V}
theorem Vw.mono (e : Same F F') (h : Vw K σ ρ F d v) : Vw K σ ρ F' d v := h.elim (fun h => .inl (Rp.mono e d v h)) .inr
theorem Vw.int {i : Int} (h : Vw K σ ρ F (.int i) v) : v = .int i := by
  rcases h with h | ⟨_, _, _, _, _, _, h⟩
  · exact h
  · cases h
theorem Vw.bl {i : Bool} (h : Vw K σ ρ F (.bl i) v) : v = .bl i := by
  rcases h with h | ⟨_, _, _, _, _, _, h⟩
  · exact h
  · cases h
theorem Vw.str {i : Str} (h : Vw K σ ρ F (.str i) v) : v = .str i := by
  rcases h with h | ⟨_, _, _, _, _, _, h⟩
  · exact h
  · cases h
theorem Vw.non (h : Vw K σ ρ F .non v) : v = .non := by
  rcases h with h | ⟨_, _, _, _, _, _, h⟩
  · exact h
  · cases h
theorem Vw.lst {l : List D} (A : Ab K g σ H ρ M F O) (h : Vw K σ ρ F (.lst l) v) : ∃ a xs, v = .ref a ∧ H a = some (.lst xs) ∧ RpL K F l xs := by
  rcases h with ⟨a, xs, e, s, r⟩ | ⟨i, l', p, h1, h2, h3, h4⟩
  · exact ⟨a, xs, e, A.sub _ _ s, r⟩
  · cases h4
    obtain ⟨u, e1, q, xs, e2, e3, r, e4⟩ := A.sl i _ h1
    rw [h2] at e1
    cases e1
    cases e2
    exact ⟨p, xs, h3, e3, r⟩
theorem Vw.scr {l : List Int} (A : Ab K g σ H ρ M F O) (h : Vw K σ ρ F (.scr l) v) : ∃ a, v = .ref a ∧ SqL K H a (l.map V.int) := by
  rcases h with ⟨a, e, s⟩ | ⟨_, _, _, _, _, _, h⟩
  · exact ⟨a, e, same_l A.sub s⟩
  · cases h
theorem Vw.tupF {l : List D} (h : Vw K σ ρ F (.tup l) v) : ∃ a xs, v = .ref a ∧ SqT K F a xs ∧ RpL K F l xs := by
  rcases h with h | ⟨_, _, _, _, _, _, h⟩
  · exact h
  · cases h
theorem Vw.tup {l : List D} (A : Ab K g σ H ρ M F O) (h : Vw K σ ρ F (.tup l) v) : ∃ a xs, v = .ref a ∧ SqT K H a xs ∧ RpL K F l xs := by
  rcases h with ⟨a, xs, e, s, r⟩ | ⟨_, _, _, _, _, _, h⟩
  · exact ⟨a, xs, e, same_t A.sub s, r⟩
  · cases h
end

/-- an expression that is looked at -/
def realO (K : PySem.W.Frag) (W : WX) (p : PTE) : TE := fun σ H Q => ∃ g ρ M F O q w, Ab K g σ H ρ M F O ∧ p w ρ M q ∧ WOk K g F W w ∧
  ∀ v H' F' O' M' d, Ab K g σ H' ρ M' F' O' → Same F F' → Vw K σ ρ F' d v → q d M' → Q v H'
abbrev DO (X : Cx) (W : WX) (e : Expr) (p : PTE) : Prop := PE X e (realO X.K W p)
/-- an expression that makes a new list -/
def realL (K : PySem.W.Frag) (W : WX) (p : PTA) : TE := fun σ H Q => ∃ g ρ M F O q w, Ab K g σ H ρ M F O ∧ p w ρ M q ∧ WOk K g F W w ∧
  ∀ a xs H' F' O' M' ds, Ab K g σ H' ρ M' F' O' → Same F F' → H' a = some (.lst xs) → RpL K F' ds xs → F' a = none → O' a = none → g.H0 a = none → q ds M' → Q (.ref a) H'
abbrev DL (X : Cx) (W : WX) (e : Expr) (p : PTA) : Prop := PE X e (realL X.K W p)
def dL (p : PTA) : PTE := fun w ρ M q => p w ρ M fun ds M' => q (.lst ds) M'

section
variable {X : Cx} {W : WX} {a b c e : Expr} {es : List Expr} {pa pb pc : PTE} {pl : PTA} {pos : Pos}
theorem do_of (h : DE X W e pa) : DO X W e pa := pe_imp h fun σ H Q ⟨g, ρ, M, F, O, q, w, A, p, hw, k⟩ =>
  ⟨g, ρ, M, F, O, q, w, A, p, hw, fun v H' F' O' M' d A' s r q => k v H' F' O' M' d A' s (.inl r) q⟩
theorem de_l (h : DL X W e pl) : DE X W e (dL pl) := pe_imp h fun σ H Q ⟨g, ρ, M, F, O, q, w, A, p, hw, k⟩ =>
  ⟨g, ρ, M, F, O, _, w, A, p, hw, fun a xs H' F' O' M' ds A' s hH r hF hO h0 q =>
    have s2 : Same F' (upd F' a (.lst xs)) := same_new hF
    k (.ref a) H' _ O' M' (.lst ds) (A'.freeze hH hF hO h0) (s.trans s2) ⟨a, xs, rfl, upd_same, RpL.mono s2 ds xs r⟩ q⟩
theorem do_l (h : DL X W e pl) : DO X W e (dL pl) := do_of (de_l h)

/-! ### names, constants -/
def dVar (i : Nat) : PTE := fun _ ρ M q => match gt ρ i with | some (.val d) => q d M | _ => False
def dOwn (i : Nat) : PTE := fun _ ρ M q => match gt ρ i with | some (.val d) => q d M | some (.own l) => q (.lst l) M | _ => False
theorem dv (i : Nat) {x : Str} {pos : Pos} (hN : X.N[i]? = some x := by rfl) (hv : Vis X.env.scope x := by first | exact Or.inl rfl | exact Or.inr (Or.inl rfl) | exact Or.inr (Or.inr rfl)) (hd : (x == ("__debug__" : Str)) = false := by decide)
    (hcd : (x == ("__classdict__" : Str)) = false := by decide) : DE X W (.Name x pos) (dVar i) := pe_imp (pv i hN hv hd hcd) fun σ H Q ⟨g, ρ, M, F, O, q, w, A, p, hw, k⟩ => by
  unfold dVar at p
  split at p
  · rename_i d e
    obtain ⟨v, e1, r⟩ := A.sl i _ e
    exact ⟨v, e1, k v H F O M d A (Same.refl F) r p⟩
  · exact p.elim
/-- a name that is looked at: its slot may hold a list of its own -/
theorem dn (i : Nat) {x : Str} {pos : Pos} (hN : X.N[i]? = some x := by rfl) (hv : Vis X.env.scope x := by first | exact Or.inl rfl | exact Or.inr (Or.inl rfl) | exact Or.inr (Or.inr rfl)) (hd : (x == ("__debug__" : Str)) = false := by decide)
    (hcd : (x == ("__classdict__" : Str)) = false := by decide) : DO X W (.Name x pos) (dOwn i) := pe_imp (pv i hN hv hd hcd) fun σ H Q ⟨g, ρ, M, F, O, q, w, A, p, hw, k⟩ => by
  unfold dOwn at p
  split at p
  · rename_i d e
    obtain ⟨v, e1, r⟩ := A.sl i _ e
    exact ⟨v, e1, k v H F O M d A (Same.refl F) (.inl r) p⟩
  · rename_i l e
    obtain ⟨v, e1, a, xs, rfl, h2, r, h3⟩ := A.sl i _ e
    exact ⟨.ref a, e1, k (.ref a) H F O M (.lst l) A (Same.refl F) (.inr ⟨i, l, a, e, e1, rfl, rfl⟩) p⟩
  · exact p.elim
def dC (d : D) : PTE := fun _ _ M q => q d M
theorem dc_of {v : V} {d : D} (h : PE X e (tC v)) (hr : ∀ F, Rp X.K F d v) : DE X W e (dC d) := pe_imp h fun σ H Q ⟨g, ρ, M, F, O, q, w, A, p, hw, k⟩ => k v H F O M d A (Same.refl F) (hr F) p
theorem de_int {i : Int} {j : Nat} : DE X W (.Constant (.int i) j pos) (dC (.int i)) := dc_of pe_int fun _ => rfl
theorem de_bl {i : Bool} {j : Nat} : DE X W (.Constant (.bool i) j pos) (dC (.bl i)) := dc_of pe_bl fun _ => rfl
theorem de_non {j : Nat} : DE X W (.Constant .none j pos) (dC .non) := dc_of pe_non fun _ => rfl
theorem de_str {x : Str} {j : Nat} : DE X W (.Constant (.str x) j pos) (dC (.str x)) := dc_of pe_str fun _ => rfl
/-- a module's constant that is an int -/
theorem de_gint {x : Str} {i : Int} {t : Tok} (hg : Gl X x) (hm : X.mg x = some (.int i t)) (hd : (x == ("__debug__" : Str)) = false := by decide) : DE X W (.Name x pos) (dC (.int i)) := dc_of (v := .int i) (pe_glob hg hm (show RelV (.int i) _ from ⟨t, rfl⟩) hd) fun _ => rfl
theorem de_gstr {x y : Str} {t : Tok} (hg : Gl X x) (hm : X.mg x = some (.str y t)) (hd : (x == ("__debug__" : Str)) = false := by decide) : DE X W (.Name x pos) (dC (.str y)) := dc_of (v := .str y) (pe_glob hg hm (show RelV (.str y) _ from ⟨t, rfl⟩) hd) fun _ => rfl

/-! ### operators -/
abbrev F2 := D → D → (D → Prop) → Prop
def OpF (K : PySem.W.Frag) (r : R2) (f : F2) : Prop := ∀ g σ H ρ M F O x y v u (k : D → Prop) (Q : VK), Ab K g σ H ρ M F O → Vw K σ ρ F x v → Vw K σ ρ F y u → f x y k →
  (∀ z w H' F' O', Ab K g σ H' ρ M F' O' → Same F F' → Rp K F' z w → k z → Q w H') → r v u H Q
def dOp (f : F2) (pa pb : PTE) : PTE := fun w ρ M q => pa w ρ M fun x M1 => pb w ρ M1 fun y M2 => f x y fun z => q z M2
theorem op_run {r : R2} {f : F2} (hf : OpF X.K r f) {σ : L2.St} {H : Hp} {Q : VK} (h : real X.K W (dOp f pa pb) σ H Q) : tOp r (realO X.K W pa) (realO X.K W pb) σ H Q := by
  obtain ⟨g, ρ, M, F, O, q, w, A, p, hw, k⟩ := h
  exact ⟨g, ρ, M, F, O, _, w, A, p, hw, fun v H1 F1 O1 M1 d A1 s1 r1 q1 => ⟨g, ρ, M1, F1, O1, _, w, A1, q1, hw.mono s1, fun u H2 F2 O2 M2 e A2 s2 r2 q2 =>
    hf g σ H2 ρ M2 F2 O2 d e v u _ Q A2 (r1.mono s2) r2 q2 fun z w3 H3 F3 O3 A3 s3 r3 q3 => k w3 H3 F3 O3 M2 z A3 ((s1.trans s2).trans s3) r3 q3⟩⟩
theorem de_op {op : Operator} {r : R2} {f : F2} (ho : OpR X (binaryOp op) r) (hf : OpF X.K r f) (ha : DO X W a pa) (hb : DO X W b pb) : DE X W (.BinOp a op b pos) (dOp f pa pb) := pe_imp (pe_op ho ha hb) fun σ H Q h => op_run hf h
theorem de_cmp {op : CmpOp} {r : R2} {f : F2} (ho : OpR X (compareOp op) r) (hf : OpF X.K r f) (ha : DO X W a pa) (hb : DO X W b pb) (hm : behindInMarks op b = false) : DE X W (.Compare a [op] [b] pos) (dOp f pa pb) := pe_imp (pe_cmpR ho ha hb hm) fun σ H Q h => op_run hf h
def isB (d : D) (k : Bool → Prop) : Prop := match d with | .bl b => k b | _ => False
def dTst (p : PTE) : PTT := fun w ρ M q => p w ρ M fun d M' => isB d fun b => q b M'
theorem isB_run {F : Hp} {K : PySem.W.Frag} {d : D} {v : V} {k : Bool → Prop} (r : Rp K F d v) (h : isB d k) : ∃ b, v = .bl b ∧ k b := by
  unfold isB at h
  split at h
  · exact ⟨_, r, h⟩
  · exact h.elim
theorem tst_run {t : TE} {p : PTE} (h : ∀ σ H Q, real X.K W p σ H Q → t σ H Q) {σ : L2.St} {H : Hp} {Q : Bool → Hp → Prop} (hh : realT X.K W (dTst p) σ H Q) : tTest t σ H Q := by
  obtain ⟨g, ρ, M, F, O, q, w, A, p, hw, k⟩ := hh
  refine h σ H _ ⟨g, ρ, M, F, O, _, w, A, p, hw, fun v H1 F1 O1 M1 d A1 s1 r1 q1 => ?_⟩
  obtain ⟨b, e, q2⟩ := isB_run r1 q1
  exact ⟨b, e, k b H1 F1 O1 M1 A1 s1 q2⟩
theorem dt_cmp {op : CmpOp} {r : R2} {f : F2} (ho : OpR X (compareOp op) r) (hf : OpF X.K r f) (ha : DO X W a pa) (hb : DO X W b pb) (hm : behindInMarks op b = false) : DT X W (.Compare a [op] [b] pos) (dTst (dOp f pa pb)) :=
  pt_imp (pt_cmpR ho ha hb hm) fun σ H Q h => tst_run (t := tOp r (realO X.K W pa) (realO X.K W pb)) (fun _ _ _ h => op_run hf h) h
/-- any other expression whose value is a bool, as a test -/
theorem dt_val (h : DE X W e pa) (he : ∀ whole, isTrue e X.env whole = (do let v ← whole; standAt e.pos; holding [v] (truthy v)) := by intro _; rfl) : DT X W e (dTst pa) := pt_imp (pt_val h he) fun σ H Q hh => tst_run (t := real X.K W pa) (fun _ _ _ h => h) hh
/-- a op1 b op2 c -/
def dChain (f f' : F2) (pa pb pc : PTE) : PTE := fun w ρ M q => pa w ρ M fun x M1 => pb w ρ M1 fun y M2 => f x y fun z => isB z fun k => if k = true then pc w ρ M2 fun u M3 => f' y u fun z => q z M3 else q (.bl false) M2
theorem chain_run {r r' : R2} {f f' : F2} (hf : OpF X.K r f) (hf' : OpF X.K r' f') {σ : L2.St} {H : Hp} {Q : VK} (h : real X.K W (dChain f f' pa pb pc) σ H Q) : tChain r r' (realO X.K W pa) (realO X.K W pb) (realO X.K W pc) σ H Q := by
  obtain ⟨g, ρ, M, F, O, q, w, A, p, hw, k⟩ := h
  refine ⟨g, ρ, M, F, O, _, w, A, p, hw, fun v H1 F1 O1 M1 d A1 s1 r1 q1 => ⟨g, ρ, M1, F1, O1, _, w, A1, q1, hw.mono s1, fun u H2 F2 O2 M2 e A2 s2 r2 q2 =>
    hf g σ H2 ρ M2 F2 O2 d e v u _ _ A2 (r1.mono s2) r2 q2 fun z w3 H3 F3 O3 A3 s3 r3 q3 => ?_⟩⟩
  obtain ⟨b, eb, q4⟩ := isB_run r3 q3
  refine ⟨b, eb, ?_⟩
  cases b with
  | true =>
    exact ⟨g, ρ, M2, F3, O3, _, w, A3, q4, hw.mono ((s1.trans s2).trans s3), fun u4 H4 F4 O4 M4 e4 A4 s4 r4 q5 =>
      hf' g σ H4 ρ M4 F4 O4 e e4 u u4 _ Q A4 (r2.mono (s3.trans s4)) r4 q5 fun z5 w5 H5 F5 O5 A5 s5 r5 q5 => k w5 H5 F5 O5 M4 z5 A5 ((((s1.trans s2).trans s3).trans s4).trans s5) r5 q5⟩
  | false => exact k (.bl false) H3 F3 O3 M2 (.bl false) A3 ((s1.trans s2).trans s3) rfl q4
theorem de_chain {op op' : CmpOp} {r r' : R2} {f f' : F2} (ho : OpR X (compareOp op) r) (hf : OpF X.K r f) (ho' : OpR X (compareOp op') r') (hf' : OpF X.K r' f') (ha : DO X W a pa) (hb : DO X W b pb) (hc : DO X W c pc)
    (hm : lastMarks [op, op'] [b, c] = false := by with_unfolding_all rfl) : DE X W (.Compare a [op, op'] [b, c] pos) (dChain f f' pa pb pc) := pe_imp (pe_chain ho ho' ha hb hc hm) fun σ H Q h => chain_run hf hf' h
theorem dt_chain {op op' : CmpOp} {r r' : R2} {f f' : F2} (ho : OpR X (compareOp op) r) (hf : OpF X.K r f) (ho' : OpR X (compareOp op') r') (hf' : OpF X.K r' f') (ha : DO X W a pa) (hb : DO X W b pb) (hc : DO X W c pc)
    (hm : lastMarks [op, op'] [b, c] = false := by with_unfolding_all rfl) : DT X W (.Compare a [op, op'] [b, c] pos) (dTst (dChain f f' pa pb pc)) := pt_imp (pt_chain ho ho' ha hb hc hm) fun σ H Q h => tst_run (t := tChain r r' (realO X.K W pa) (realO X.K W pb) (realO X.K W pc)) (fun _ _ _ h => chain_run hf hf' h) h
end
end Px

set_option Elab.async false
set_option linter.all false
set_option maxRecDepth 100000
namespace Px
open PySem PySem.Spec PyProof.Rows L2

/-! ### the operators' meanings -/
def fAdd : F2
  | .int i, .int j, k => k (.int (i + j))
  | .lst a, .lst b, k => a.length + b.length ≤ 1000000 ∧ k (.lst (a ++ b))
  | .tup a, .tup b, k => a.length + b.length ≤ 1000000 ∧ k (.tup (a ++ b))
  | .str a, .str b, k => a.length + b.length ≤ 1000000 ∧ k (.str (a ++ b))
  | _, _, _ => False
def fSub : F2
  | .int i, .int j, k => k (.int (i - j))
  | _, _, _ => False
def fMul : F2
  | .int i, .int j, k => CMulX i j ∧ k (.int (i * j))
  | .lst a, .int n, k => -1000000 ≤ n ∧ n ≤ 1000000 ∧ a.length * n.toNat ≤ 1000000 ∧ k (.lst (List.replicate n.toNat a).flatten)
  | _, _, _ => False
def fDiv : F2
  | .int i, .int j, k => CDivW i j ∧ k (.int (i / j))
  | _, _, _ => False
def fMod : F2
  | .int i, .int j, k => 0 < j ∧ k (.int (i % j))
  | _, _, _ => False
def fPow : F2
  | .int i, .int j, k => CPow i j ∧ k (.int (i ^ j.toNat))
  | _, _, _ => False
def fCmp (p : Int → Int → Bool) : F2
  | .int i, .int j, k => k (.bl (p i j))
  | _, _, _ => False
abbrev fLt : F2 := fCmp fun i j => decide (i < j)
abbrev fLe : F2 := fCmp fun i j => decide (i ≤ j)
abbrev fGt : F2 := fCmp fun i j => decide (j < i)
abbrev fGe : F2 := fCmp fun i j => decide (j ≤ i)

theorem line_big {n : Nat} (h : n ≤ 1000000) : n ≤ sizeLine := Nat.le_trans h (by decide)
section
variable {X : Cx} {K : PySem.W.Frag}
theorem RpL.flat {F : Hp} {ds : List D} {xs : List V} (h : RpL K F ds xs) : ∀ n : Nat, RpL K F (List.replicate n ds).flatten (List.replicate n xs).flatten
  | 0 => rfl
  | n + 1 => by rw [List.replicate_succ, List.replicate_succ, List.flatten_cons, List.flatten_cons]; exact h.app (RpL.flat h n)
/-- what is new is handed on -/
theorem OpF.new {g : Gh} {σ : L2.St} {H : Hp} {ρ : Rho} {M : Mm} {F : Hp} {O : Own} {Q : VK} {o : HO} {d : D} {k : D → Prop} (A : Ab K g σ H ρ M F O) (c : ∀ z w H' F' O', Ab K g σ H' ρ M F' O' → Same F F' → Rp K F' z w → k z → Q w H')
    (hk : k d) (hr : ∀ p, (upd F p o) p = some o → Same F (upd F p o) → Rp K (upd F p o) d (.ref p)) : ∀ p, H p = none → Q (.ref p) (upd H p o) := fun p hp =>
  have s := same_new (o := o) (A.f0 hp)
  c d (.ref p) _ _ _ (A.lay hp) s (hr p upd_same s) hk
theorem opf_add : OpF K (fun x y H Q => rI0 (fun i j => .int (i + j)) x y H Q ∨ rCat x y H Q ∨ rCatA K x y H Q ∨ ∃ i j, x = .str i ∧ y = .str j ∧ i.length + j.length ≤ sizeLine ∧ Q (.str (i ++ j)) H) fAdd := by
  intro g σ H ρ M F O x y v u k Q A rx ry h c
  unfold fAdd at h
  split at h
  · rename_i i j
    exact .inl ⟨i, j, rx.int, ry.int, c (.int (i + j)) _ H F O A (Same.refl F) rfl h⟩
  · rename_i a b
    obtain ⟨p, xs, e1, h1, r1⟩ := rx.lst A
    obtain ⟨q, ys, e2, h2, r2⟩ := ry.lst A
    obtain ⟨hz, hk⟩ := h
    exact .inr (.inl ⟨p, q, xs, ys, e1, e2, h1, h2, by rw [← r1.len, ← r2.len]; exact line_big hz, OpF.new A c hk fun p e s => ⟨p, _, rfl, e, (RpL.mono s _ _ r1).app (RpL.mono s _ _ r2)⟩⟩)
  · rename_i a b
    obtain ⟨p, xs, e1, h1, r1⟩ := rx.tupF
    obtain ⟨q, ys, e2, h2, r2⟩ := ry.tupF
    obtain ⟨hz, hk⟩ := h
    refine .inr (.inr (.inl ⟨p, q, xs, ys, e1, e2, same_t A.sub h1, same_t A.sub h2, by rw [← r1.len, ← r2.len]; exact line_big hz, fun e => ?_, fun _ e => ?_, fun _ _ => ?_⟩))
    · subst e
      have ea : a = [] := List.length_eq_zero_iff.mp r1.len
      subst ea
      exact c (.tup b) _ H F O A (Same.refl F) ⟨q, ys, rfl, h2, r2⟩ hk
    · subst e
      have eb : b = [] := List.length_eq_zero_iff.mp r2.len
      subst eb
      rw [List.append_nil] at hk
      exact c (.tup a) _ H F O A (Same.refl F) ⟨p, xs, rfl, h1, r1⟩ hk
    · exact OpF.new A c hk fun p e s => ⟨p, _, rfl, .inl (.inl e), (RpL.mono s _ _ r1).app (RpL.mono s _ _ r2)⟩
  · rename_i a b
    obtain ⟨hz, hk⟩ := h
    exact .inr (.inr (.inr ⟨a, b, rx.str, ry.str, line_big hz, c (.str (a ++ b)) _ H F O A (Same.refl F) rfl hk⟩))
  · exact h.elim
theorem o_add : OpR X (binaryOp .Add) (fun x y H Q => rI0 (fun i j => .int (i + j)) x y H Q ∨ rCat x y H Q ∨ rCatA X.K x y H Q ∨ ∃ i j, x = .str i ∧ y = .str j ∧ i.length + j.length ≤ sizeLine ∧ Q (.str (i ++ j)) H) :=
  op_add.or (op_cat.or (op_catA.or op_add_str))
/-- ints in, an int or a bool out -/
theorem opf_i {C : Int → Int → Prop} {h : Int → Int → V} {h' : Int → Int → D} {f : F2} (hh : ∀ F i j, Rp K F (h' i j) (h i j)) (hf : ∀ x y k, f x y k → ∃ i j, x = .int i ∧ y = .int j ∧ C i j ∧ k (h' i j)) : OpF K (rI C h) f := by
  intro g σ H ρ M F O x y v u k Q A rx ry h c
  obtain ⟨i, j, rfl, rfl, hc, hk⟩ := hf x y k h
  exact ⟨i, j, rx.int, ry.int, hc, c _ _ H F O A (Same.refl F) (hh F i j) hk⟩
theorem opf_i0 {h : Int → Int → V} {h' : Int → Int → D} {f : F2} (hh : ∀ F i j, Rp K F (h' i j) (h i j)) (hf : ∀ x y k, f x y k → ∃ i j, x = .int i ∧ y = .int j ∧ k (h' i j)) : OpF K (rI0 h) f := by
  intro g σ H ρ M F O x y v u k Q A rx ry h c
  obtain ⟨i, j, rfl, rfl, hk⟩ := hf x y k h
  exact ⟨i, j, rx.int, ry.int, c _ _ H F O A (Same.refl F) (hh F i j) hk⟩
theorem opf_sub : OpF K (rI0 fun i j => .int (i - j)) fSub := opf_i0 (h' := fun i j => .int (i - j)) (fun _ _ _ => rfl) fun x y k h => by
  unfold fSub at h
  split at h
  · exact ⟨_, _, rfl, rfl, h⟩
  · exact h.elim
theorem opf_div : OpF K (rI CDivW fun i j => .int (i / j)) fDiv := opf_i (h' := fun i j => .int (i / j)) (fun _ _ _ => rfl) fun x y k h => by
  unfold fDiv at h
  split at h
  · exact ⟨_, _, rfl, rfl, h⟩
  · exact h.elim
theorem opf_mod : OpF K (rI (fun _ j => 0 < j) fun i j => .int (i % j)) fMod := opf_i (h' := fun i j => .int (i % j)) (fun _ _ _ => rfl) fun x y k h => by
  unfold fMod at h
  split at h
  · exact ⟨_, _, rfl, rfl, h⟩
  · exact h.elim
theorem opf_pow : OpF K (rI CPow fun i j => .int (i ^ j.toNat)) fPow := opf_i (h' := fun i j => .int (i ^ j.toNat)) (fun _ _ _ => rfl) fun x y k h => by
  unfold fPow at h
  split at h
  · exact ⟨_, _, rfl, rfl, h⟩
  · exact h.elim
theorem opf_cmp {p : Int → Int → Bool} : OpF K (rI0 fun i j => .bl (p i j)) (fCmp p) := opf_i0 (h' := fun i j => .bl (p i j)) (fun _ _ _ => rfl) fun x y k h => by
  unfold fCmp at h
  split at h
  · exact ⟨_, _, rfl, rfl, h⟩
  · exact h.elim
theorem opf_mul : OpF K (fun x y H Q => rI CMulX (fun i j => .int (i * j)) x y H Q ∨ rRep x y H Q) fMul := by
  intro g σ H ρ M F O x y v u k Q A rx ry h c
  unfold fMul at h
  split at h
  · rename_i i j
    exact .inl ⟨i, j, rx.int, ry.int, h.1, c (.int (i * j)) _ H F O A (Same.refl F) rfl h.2⟩
  · rename_i a n
    obtain ⟨p, xs, e1, h1, r1⟩ := rx.lst A
    obtain ⟨z1, z2, z3, hk⟩ := h
    exact .inr ⟨p, n, xs, e1, ry.int, h1, by omega, by omega, by rw [← r1.len]; exact line_big z3, OpF.new A c hk fun p e s => ⟨p, _, rfl, e, (RpL.mono s _ _ r1).flat _⟩⟩
  · exact h.elim
theorem o_mul : OpR X (binaryOp .Mult) (fun x y H Q => rI CMulX (fun i j => .int (i * j)) x y H Q ∨ rRep x y H Q) := op_mulX.or op_rep

/-! ### == of data -/
mutual
def toPy : D → PyData
  | .non => .none
  | .bl b => .bool b
  | .int i => .int i
  | .str s => .str s
  | .tup l => .tuple (toPyL l)
  | .lst l => .list (toPyL l)
  | .dic _ _ => .none
  | .obj _ _ _ => .none
  | .raw _ => .none
  | .scr _ => .none
def toPyL : List D → List PyData
  | [] => []
  | d :: ds => toPy d :: toPyL ds
end
/-- data without dicts and objects, at most so deep, texts of proper signs -/
def okD : Nat → D → Bool
  | _, .non => true
  | _, .bl _ => true
  | _, .int _ => true
  | _, .str s => PyData.strOk s
  | n + 1, .tup l => l.all (okD n)
  | n + 1, .lst l => l.all (okD n)
  | _, _ => false
def okP : Nat → D → Prop
  | _, .non => True
  | _, .bl _ => True
  | _, .int _ => True
  | _, .str s => PyData.strOk s = true
  | n + 1, .tup l => ∀ d ∈ l, okP n d
  | n + 1, .lst l => ∀ d ∈ l, okP n d
  | _, _ => False
theorem okP_of : ∀ (n : Nat) (d : D), okD n d = true → okP n d := by
  intro n
  induction n with
  | zero =>
    intro d h
    cases d <;> first | trivial | exact h | (cases h)
  | succ n ih =>
    intro d h
    cases d with
    | tup l => exact fun d hd => ih d (List.all_eq_true.mp (show l.all (okD n) = true from h) d hd)
    | lst l => exact fun d hd => ih d (List.all_eq_true.mp (show l.all (okD n) = true from h) d hd)
    | _ => first | trivial | exact h | (cases h)
theorem lay_all : ∀ {l : List D}, (∀ d ∈ l, (toPy d).canLay0 = true) → PyData.canLayAll0 (toPyL l) = true
  | [], _ => rfl
  | d :: ds, h => by
    show ((toPy d).canLay0 && PyData.canLayAll0 (toPyL ds)) = true
    rw [h d List.mem_cons_self, lay_all fun e he => h e (List.mem_cons_of_mem _ he)]
    rfl
theorem deep_all {n : Nat} : ∀ {l : List D}, (∀ d ∈ l, (toPy d).depth ≤ n) → PyData.depthAll (toPyL l) ≤ n
  | [], _ => Nat.zero_le _
  | d :: ds, h => by
    show max (toPy d).depth (PyData.depthAll (toPyL ds)) ≤ n
    exact Nat.max_le.mpr ⟨h d List.mem_cons_self, deep_all fun e he => h e (List.mem_cons_of_mem _ he)⟩
theorem py_ok : ∀ (n : Nat) (d : D), okP n d → (toPy d).canLay0 = true ∧ (toPy d).depth ≤ n := by
  intro n
  induction n with
  | zero =>
    intro d h
    cases d <;> first | exact ⟨rfl, Nat.zero_le _⟩ | exact ⟨h, Nat.zero_le _⟩ | exact h.elim
  | succ n ih =>
    intro d h
    cases d with
    | tup l => exact ⟨lay_all fun d hd => (ih d (h d hd)).1, Nat.succ_le_succ (deep_all fun d hd => (ih d (h d hd)).2)⟩
    | lst l => exact ⟨lay_all fun d hd => (ih d (h d hd)).1, Nat.succ_le_succ (deep_all fun d hd => (ih d (h d hd)).2)⟩
    | _ => first | exact ⟨rfl, Nat.zero_le _⟩ | exact ⟨h, Nat.zero_le _⟩ | exact h.elim
theorem dp_all {F : Hp} {n : Nat} (ih : ∀ d v, okP n d → Rp K F d v → Dp K F v (toPy d)) : ∀ {l : List D} {xs : List V}, (∀ d ∈ l, okP n d) → RpL K F l xs → DpAll K F xs (toPyL l)
  | [], _, _, r => by rw [show _ = [] from r]; exact .nil
  | d :: ds, _, h, ⟨x, r, e, q, t⟩ => by
    rw [e]
    exact .cons (ih d x (h d List.mem_cons_self) q) (dp_all ih (fun e he => h e (List.mem_cons_of_mem _ he)) t)
theorem dp_of {F : Hp} : ∀ (n : Nat) (d : D) (v : V), okP n d → Rp K F d v → Dp K F v (toPy d) := by
  intro n
  induction n with
  | zero =>
    intro d v h r
    cases d <;> first | (rw [show v = _ from r]; constructor) | exact h.elim
  | succ n ih =>
    intro d v h r
    cases d with
    | tup l =>
      obtain ⟨a, xs, e, s, q⟩ := r
      rw [e]
      exact .tup s (dp_all ih h q)
    | lst l =>
      obtain ⟨a, xs, e, s, q⟩ := r
      rw [e]
      exact .lst (.inl (.inl s)) (dp_all ih h q)
    | _ => first | (rw [show v = _ from r]; constructor) | exact h.elim
mutual
theorem Dp.up {F H : Hp} (s : Same F H) : ∀ (e : PyData) (v : V), Dp K F v e → Dp K H v e
  | .none, _, h => by cases h; exact .non
  | .bool b, _, h => by cases h; exact .bl b
  | .int i, _, h => by cases h; exact .int i
  | .str x, _, h => by cases h; exact .str x
  | .list ds, _, h => by
    cases h with
    | lst q t => exact .lst (same_l s q) (DpAll.up s ds _ t)
  | .tuple ds, _, h => by
    cases h with
    | tup q t => exact .tup (same_t s q) (DpAll.up s ds _ t)
  | .dict _, _, h => by cases h
theorem DpAll.up {F H : Hp} (s : Same F H) : ∀ (es : List PyData) (vs : List V), DpAll K F vs es → DpAll K H vs es
  | [], _, h => by cases h; exact .nil
  | e :: es, _, h => by
    cases h with
    | cons q t => exact .cons (Dp.up s e _ q) (DpAll.up s es _ t)
end
theorem vw_dp {g : Gh} {σ : L2.St} {H : Hp} {ρ : Rho} {M : Mm} {F : Hp} {O : Own} {d : D} {v : V} {n : Nat} (A : Ab K g σ H ρ M F O) (h : okP n d) (r : Vw K σ ρ F d v) : Dp K H v (toPy d) := by
  rcases r with r | ⟨i, l, p, h1, h2, h3, h4⟩
  · exact Dp.up A.sub _ _ (dp_of n d v h r)
  · subst h4
    obtain ⟨q, xs, e1, e2, e3⟩ := Vw.lst A (.inr ⟨i, l, p, h1, h2, h3, rfl⟩)
    rw [e1]
    cases n with
    | zero => exact h.elim
    | succ n => exact .lst (.inl (.inl e2)) (DpAll.up A.sub _ _ (dp_all (fun d v => dp_of n d v) h e3))
theorem shaped_ok {n : Nat} {d : D} (h : okP n d) (hn : n ≤ 64) : SeqAt.shaped (toPy d) = true := by
  obtain ⟨h1, h2⟩ := py_ok n d h
  unfold SeqAt.shaped
  rw [h1, decide_eq_true (Nat.le_trans h2 hn)]
  rfl
def eqD (x y : D) : Bool := PyData.eqv (toPy x) (toPy y)
def fEq : F2 := fun x y k => (okD 50 x && okD 50 y) = true ∧ k (.bl (eqD x y))
def fNe : F2 := fun x y k => (okD 50 x && okD 50 y) = true ∧ k (.bl (!eqD x y))
theorem opf_eq : OpF K (rEqD K) fEq := by
  intro g σ H ρ M F O x y v u k Q A rx ry h c
  obtain ⟨h1, hk⟩ := h
  obtain ⟨hx, hy⟩ := Bool.and_eq_true_iff.mp h1
  have px := okP_of _ _ hx
  have py := okP_of _ _ hy
  exact ⟨_, _, vw_dp A px rx, vw_dp A py ry, shaped_ok px (by decide), shaped_ok py (by decide), c (.bl (eqD x y)) _ H F O A (Same.refl F) rfl hk⟩
theorem opf_ne : OpF K (rNeD K) fNe := by
  intro g σ H ρ M F O x y v u k Q A rx ry h c
  obtain ⟨h1, hk⟩ := h
  obtain ⟨hx, hy⟩ := Bool.and_eq_true_iff.mp h1
  have px := okP_of _ _ hx
  have py := okP_of _ _ hy
  exact ⟨_, _, vw_dp A px rx, vw_dp A py ry, shaped_ok px (by decide), shaped_ok py (by decide), c (.bl (!eqD x y)) _ H F O A (Same.refl F) rfl hk⟩
/-! ### is None -/
def isN : D → Bool
  | .non => true
  | _ => false
theorem rp_isN {F : Hp} {d : D} {v : V} (h : match d with | .raw _ => False | _ => True) (r : Rp K F d v) : decide (v = .non) = isN d := by
  cases d with
  | non => rw [show v = .non from r]; rfl
  | bl b => rw [show v = .bl b from r]; rfl
  | int b => rw [show v = .int b from r]; rfl
  | str b => rw [show v = .str b from r]; rfl
  | tup l => obtain ⟨a, xs, e, _⟩ := r; rw [e]; rfl
  | lst l => obtain ⟨a, xs, e, _⟩ := r; rw [e]; rfl
  | dic ks l => obtain ⟨a, xs, e, _⟩ := r; rw [e]; rfl
  | obj C ns l => obtain ⟨a, dx, xs, e, _⟩ := r; rw [e]; rfl
  | raw w => exact h.elim
  | scr l => obtain ⟨a, e, _⟩ := r; rw [e]; rfl
def noRaw : D → Bool
  | .raw _ => false
  | _ => true
def fIs : F2 := fun x y k => match y with | .non => noRaw x = true ∧ k (.bl (isN x)) | _ => False
def fIsNot : F2 := fun x y k => match y with | .non => noRaw x = true ∧ k (.bl (!isN x)) | _ => False
theorem vw_isN {σ : L2.St} {ρ : Rho} {F : Hp} {d : D} {v : V} (h : noRaw d = true) (r : Vw K σ ρ F d v) : decide (v = .non) = isN d := by
  rcases r with r | ⟨i, l, p, h1, h2, h3, h4⟩
  · exact rp_isN (by cases d <;> first | trivial | (cases h)) r
  · subst h4; rw [h3]; rfl
theorem opf_is : OpF K (fun x y H Q => y = .non ∧ Q (.bl (decide (x = .non))) H) fIs := by
  intro g σ H ρ M F O x y v u k Q A rx ry h c
  unfold fIs at h
  split at h
  · exact ⟨ry.non, by rw [vw_isN h.1 rx]; exact c (.bl (isN x)) _ H F O A (Same.refl F) rfl h.2⟩
  · exact h.elim
theorem opf_isnot : OpF K (fun x y H Q => y = .non ∧ Q (.bl (!decide (x = .non))) H) fIsNot := by
  intro g σ H ρ M F O x y v u k Q A rx ry h c
  unfold fIsNot at h
  split at h
  · exact ⟨ry.non, by rw [vw_isN h.1 rx]; exact c (.bl (!isN x)) _ H F O A (Same.refl F) rfl h.2⟩
  · exact h.elim
end

section
variable {X : Cx} {W : WX} {a b c e i : Expr} {es rest : List Expr} {pa pb pc : PTE} {ta tb tc : PTT} {pl : PTA} {pos : Pos}
/-! ### short forms -/
theorem de_add (ha : DO X W a pa) (hb : DO X W b pb) : DE X W (.BinOp a .Add b pos) (dOp fAdd pa pb) := de_op o_add opf_add ha hb
theorem de_sub (ha : DO X W a pa) (hb : DO X W b pb) : DE X W (.BinOp a .Sub b pos) (dOp fSub pa pb) := de_op op_sub opf_sub ha hb
theorem de_mul (ha : DO X W a pa) (hb : DO X W b pb) : DE X W (.BinOp a .Mult b pos) (dOp fMul pa pb) := de_op o_mul opf_mul ha hb
theorem de_div (ha : DO X W a pa) (hb : DO X W b pb) : DE X W (.BinOp a .FloorDiv b pos) (dOp fDiv pa pb) := de_op op_fdivW opf_div ha hb
theorem de_mod (ha : DO X W a pa) (hb : DO X W b pb) : DE X W (.BinOp a .Mod b pos) (dOp fMod pa pb) := de_op op_mod opf_mod ha hb
theorem de_pow (ha : DO X W a pa) (hb : DO X W b pb) : DE X W (.BinOp a .Pow b pos) (dOp fPow pa pb) := de_op op_pow opf_pow ha hb
theorem de_lt (ha : DO X W a pa) (hb : DO X W b pb) : DE X W (.Compare a [.Lt] [b] pos) (dOp fLt pa pb) := de_cmp op_lt opf_cmp ha hb (nomark _)
theorem de_le (ha : DO X W a pa) (hb : DO X W b pb) : DE X W (.Compare a [.LtE] [b] pos) (dOp fLe pa pb) := de_cmp op_le opf_cmp ha hb (nomark _)
theorem de_gt (ha : DO X W a pa) (hb : DO X W b pb) : DE X W (.Compare a [.Gt] [b] pos) (dOp fGt pa pb) := de_cmp op_gt opf_cmp ha hb (nomark _)
theorem de_ge (ha : DO X W a pa) (hb : DO X W b pb) : DE X W (.Compare a [.GtE] [b] pos) (dOp fGe pa pb) := de_cmp op_ge opf_cmp ha hb (nomark _)
theorem de_eq (hu : X.A.units + 64 < cLine) (ha : DO X W a pa) (hb : DO X W b pb) : DE X W (.Compare a [.Eq] [b] pos) (dOp fEq pa pb) := de_cmp (op_eqD hu) opf_eq ha hb (nomark _)
theorem de_ne (hu : X.A.units + 64 < cLine) (ha : DO X W a pa) (hb : DO X W b pb) : DE X W (.Compare a [.NotEq] [b] pos) (dOp fNe pa pb) := de_cmp (op_neD hu) opf_ne ha hb (nomark _)
theorem de_is (ha : DO X W a pa) (hb : DO X W b pb) : DE X W (.Compare a [.Is] [b] pos) (dOp fIs pa pb) := de_cmp op_isN opf_is ha hb (nomark _)
theorem de_isnot (ha : DO X W a pa) (hb : DO X W b pb) : DE X W (.Compare a [.IsNot] [b] pos) (dOp fIsNot pa pb) := de_cmp op_notN opf_isnot ha hb (nomark _)
theorem dt_lt (ha : DO X W a pa) (hb : DO X W b pb) : DT X W (.Compare a [.Lt] [b] pos) (dTst (dOp fLt pa pb)) := dt_cmp op_lt opf_cmp ha hb (nomark _)
theorem dt_le (ha : DO X W a pa) (hb : DO X W b pb) : DT X W (.Compare a [.LtE] [b] pos) (dTst (dOp fLe pa pb)) := dt_cmp op_le opf_cmp ha hb (nomark _)
theorem dt_gt (ha : DO X W a pa) (hb : DO X W b pb) : DT X W (.Compare a [.Gt] [b] pos) (dTst (dOp fGt pa pb)) := dt_cmp op_gt opf_cmp ha hb (nomark _)
theorem dt_ge (ha : DO X W a pa) (hb : DO X W b pb) : DT X W (.Compare a [.GtE] [b] pos) (dTst (dOp fGe pa pb)) := dt_cmp op_ge opf_cmp ha hb (nomark _)
theorem dt_eq (hu : X.A.units + 64 < cLine) (ha : DO X W a pa) (hb : DO X W b pb) : DT X W (.Compare a [.Eq] [b] pos) (dTst (dOp fEq pa pb)) := dt_cmp (op_eqD hu) opf_eq ha hb (nomark _)
theorem dt_ne (hu : X.A.units + 64 < cLine) (ha : DO X W a pa) (hb : DO X W b pb) : DT X W (.Compare a [.NotEq] [b] pos) (dTst (dOp fNe pa pb)) := dt_cmp (op_neD hu) opf_ne ha hb (nomark _)
theorem dt_is (ha : DO X W a pa) (hb : DO X W b pb) : DT X W (.Compare a [.Is] [b] pos) (dTst (dOp fIs pa pb)) := dt_cmp op_isN opf_is ha hb (nomark _)
theorem dt_isnot (ha : DO X W a pa) (hb : DO X W b pb) : DT X W (.Compare a [.IsNot] [b] pos) (dTst (dOp fIsNot pa pb)) := dt_cmp op_notN opf_isnot ha hb (nomark _)
/-- two comparisons in a row, of ints -/
theorem de_ch {op op' : CmpOp} {p p' : Int → Int → Bool} (ho : OpR X (compareOp op) (rI0 fun i j => .bl (p i j))) (ho' : OpR X (compareOp op') (rI0 fun i j => .bl (p' i j))) (ha : DO X W a pa) (hb : DO X W b pb) (hc : DO X W c pc)
    (hm : lastMarks [op, op'] [b, c] = false := by with_unfolding_all rfl) : DE X W (.Compare a [op, op'] [b, c] pos) (dChain (fCmp p) (fCmp p') pa pb pc) := de_chain ho opf_cmp ho' opf_cmp ha hb hc hm
theorem dt_ch {op op' : CmpOp} {p p' : Int → Int → Bool} (ho : OpR X (compareOp op) (rI0 fun i j => .bl (p i j))) (ho' : OpR X (compareOp op') (rI0 fun i j => .bl (p' i j))) (ha : DO X W a pa) (hb : DO X W b pb) (hc : DO X W c pc)
    (hm : lastMarks [op, op'] [b, c] = false := by with_unfolding_all rfl) : DT X W (.Compare a [op, op'] [b, c] pos) (dTst (dChain (fCmp p) (fCmp p') pa pb pc)) := dt_chain ho opf_cmp ho' opf_cmp ha hb hc hm

/-! ### and, or, not -/
def dAnd (ta tb : PTT) : PTT := fun w ρ M q => ta w ρ M fun c M1 => if c = true then tb w ρ M1 q else q false M1
def dOr (ta tb : PTT) : PTT := fun w ρ M q => ta w ρ M fun c M1 => if c = true then q true M1 else tb w ρ M1 q
def dNot (ta : PTT) : PTT := fun w ρ M q => ta w ρ M fun c M1 => q (!c) M1
abbrev DW (X : Cx) (W : WX) (e : Expr) (p : PTT) : Prop := L2.PW X e (realT X.K W p)
theorem DW.dt (h : DW X W e ta) : DT X W e ta := L2.PW.pt h
theorem dw_and1 (ha : DT X W a ta) : DW X W (.BoolOp .And [a] pos) ta := pw_and1 ha
theorem dw_or1 (ha : DT X W a ta) : DW X W (.BoolOp .Or [a] pos) ta := pw_or1 ha
theorem dw_and (ha : DT X W a ta) (hb : DW X W (.BoolOp .And (b :: rest) pos) tb) : DW X W (.BoolOp .And (a :: b :: rest) pos) (dAnd ta tb) := pw_imp (pw_and ha hb) fun σ H Q ⟨g, ρ, M, F, O, q, w, A, p, hw, k⟩ =>
  ⟨g, ρ, M, F, O, _, w, A, p, hw, fun b H1 F1 O1 M1 A1 s1 q1 => by
    cases b with
    | true => exact ⟨g, ρ, M1, F1, O1, q, w, A1, q1, hw.mono s1, fun b H2 F2 O2 M2 A2 s2 q2 => k b H2 F2 O2 M2 A2 (s1.trans s2) q2⟩
    | false => exact k false H1 F1 O1 M1 A1 s1 q1⟩
theorem dw_or (ha : DT X W a ta) (hb : DW X W (.BoolOp .Or (b :: rest) pos) tb) : DW X W (.BoolOp .Or (a :: b :: rest) pos) (dOr ta tb) := pw_imp (pw_or ha hb) fun σ H Q ⟨g, ρ, M, F, O, q, w, A, p, hw, k⟩ =>
  ⟨g, ρ, M, F, O, _, w, A, p, hw, fun b H1 F1 O1 M1 A1 s1 q1 => by
    cases b with
    | false => exact ⟨g, ρ, M1, F1, O1, q, w, A1, q1, hw.mono s1, fun b H2 F2 O2 M2 A2 s2 q2 => k b H2 F2 O2 M2 A2 (s1.trans s2) q2⟩
    | true => exact k true H1 F1 O1 M1 A1 s1 q1⟩
theorem dt_not (ha : DT X W a ta) : DT X W (.UnaryOp .Not a pos) (dNot ta) := pt_imp (pt_not ha) fun σ H Q ⟨g, ρ, M, F, O, q, w, A, p, hw, k⟩ =>
  ⟨g, ρ, M, F, O, _, w, A, p, hw, fun b H1 F1 O1 M1 A1 s1 q1 => k (!b) H1 F1 O1 M1 A1 s1 q1⟩
/-- .. as values (bools) -/
def dAndV (pa pb : PTE) : PTE := fun w ρ M q => pa w ρ M fun d M1 => isB d fun c => if c = true then pb w ρ M1 q else q (.bl false) M1
def dOrV (pa pb : PTE) : PTE := fun w ρ M q => pa w ρ M fun d M1 => isB d fun c => if c = true then q (.bl true) M1 else pb w ρ M1 q
def dNotV (pa : PTE) : PTE := fun w ρ M q => pa w ρ M fun d M1 => isB d fun c => q (.bl (!c)) M1
theorem de_bone {op : BoolOp} (h : DE X W a pa) : DE X W (.BoolOp op [a] pos) pa := pe_one h
theorem de_and (ha : DE X W a pa) (hb : DE X W (.BoolOp .And (b :: rest) pos) pb) : DE X W (.BoolOp .And (a :: b :: rest) pos) (dAndV pa pb) := pe_imp (pe_and ha hb) fun σ H Q ⟨g, ρ, M, F, O, q, w, A, p, hw, k⟩ =>
  ⟨g, ρ, M, F, O, _, w, A, p, hw, fun v H1 F1 O1 M1 d A1 s1 r1 q1 => by
    obtain ⟨b, eb, q2⟩ := isB_run r1 q1
    refine ⟨b, eb, ?_⟩
    cases b with
    | true => exact ⟨g, ρ, M1, F1, O1, q, w, A1, q2, hw.mono s1, fun v H2 F2 O2 M2 d A2 s2 r2 q2 => k v H2 F2 O2 M2 d A2 (s1.trans s2) r2 q2⟩
    | false => exact k (.bl false) H1 F1 O1 M1 (.bl false) A1 s1 rfl q2⟩
theorem de_or (ha : DE X W a pa) (hb : DE X W (.BoolOp .Or (b :: rest) pos) pb) : DE X W (.BoolOp .Or (a :: b :: rest) pos) (dOrV pa pb) := pe_imp (pe_or ha hb) fun σ H Q ⟨g, ρ, M, F, O, q, w, A, p, hw, k⟩ =>
  ⟨g, ρ, M, F, O, _, w, A, p, hw, fun v H1 F1 O1 M1 d A1 s1 r1 q1 => by
    obtain ⟨b, eb, q2⟩ := isB_run r1 q1
    refine ⟨b, eb, ?_⟩
    cases b with
    | false => exact ⟨g, ρ, M1, F1, O1, q, w, A1, q2, hw.mono s1, fun v H2 F2 O2 M2 d A2 s2 r2 q2 => k v H2 F2 O2 M2 d A2 (s1.trans s2) r2 q2⟩
    | true => exact k (.bl true) H1 F1 O1 M1 (.bl true) A1 s1 rfl q2⟩
theorem de_not (ha : DE X W a pa) : DE X W (.UnaryOp .Not a pos) (dNotV pa) := pe_imp (pe_not ha) fun σ H Q ⟨g, ρ, M, F, O, q, w, A, p, hw, k⟩ =>
  ⟨g, ρ, M, F, O, _, w, A, p, hw, fun v H1 F1 O1 M1 d A1 s1 r1 q1 => by
    obtain ⟨b, eb, q2⟩ := isB_run r1 q1
    exact ⟨b, eb, k (.bl (!b)) H1 F1 O1 M1 (.bl (!b)) A1 s1 rfl q2⟩⟩
def dIf (tc : PTT) (pa pb : PTE) : PTE := fun w ρ M q => tc w ρ M fun c M1 => if c = true then pa w ρ M1 q else pb w ρ M1 q
theorem de_ife (hc : DT X W c tc) (ha : DE X W a pa) (hb : DE X W b pb) : DE X W (.IfExp c a b pos) (dIf tc pa pb) := pe_imp (pe_ifExp hc ha hb) fun σ H Q ⟨g, ρ, M, F, O, q, w, A, p, hw, k⟩ =>
  ⟨g, ρ, M, F, O, _, w, A, p, hw, fun b H1 F1 O1 M1 A1 s1 q1 => by
    cases b with
    | true => exact ⟨g, ρ, M1, F1, O1, q, w, A1, q1, hw.mono s1, fun v H2 F2 O2 M2 d A2 s2 r2 q2 => k v H2 F2 O2 M2 d A2 (s1.trans s2) r2 q2⟩
    | false => exact ⟨g, ρ, M1, F1, O1, q, w, A1, q1, hw.mono s1, fun v H2 F2 O2 M2 d A2 s2 r2 q2 => k v H2 F2 O2 M2 d A2 (s1.trans s2) r2 q2⟩⟩
/-- minus -/
def dNeg (pa : PTE) : PTE := fun w ρ M q => pa w ρ M fun d M1 => match d with | .int i => q (.int (-i)) M1 | _ => False
theorem de_neg (ha : DO X W a pa) : DE X W (.UnaryOp .USub a pos) (dNeg pa) := pe_imp (pe_un un_neg ha) fun σ H Q ⟨g, ρ, M, F, O, q, w, A, p, hw, k⟩ =>
  ⟨g, ρ, M, F, O, _, w, A, p, hw, fun v H1 F1 O1 M1 d A1 s1 r1 q1 => by
    cases d with
    | int i => exact ⟨i, r1.int, k (.int (-i)) H1 F1 O1 M1 (.int (-i)) A1 s1 rfl q1⟩
    | _ => exact (show False from q1).elim⟩

/-! ### arguments, displays -/
def dNil : PTA := fun _ _ M q => q [] M
def dCons (pa : PTE) (pl : PTA) : PTA := fun w ρ M q => pa w ρ M fun d M1 => pl w ρ M1 fun ds M2 => q (d :: ds) M2
theorem da_nil : DA X W [] dNil := pa_imp pa_nil fun σ H Q ⟨g, ρ, M, F, O, q, w, A, p, hw, k⟩ => k [] H F O M [] A (Same.refl F) rfl p
theorem da_cons (ha : DE X W e pa) (hr : DA X W es pl) (hs : starEach (e :: es) X.env = (false, eval e X.env) :: starEach es X.env := by rfl) : DA X W (e :: es) (dCons pa pl) := pa_imp (pa_cons ha hr hs) fun σ H Q ⟨g, ρ, M, F, O, q, w, A, p, hw, k⟩ =>
  ⟨g, ρ, M, F, O, _, w, A, p, hw, fun v H1 F1 O1 M1 d A1 s1 r1 q1 => ⟨g, ρ, M1, F1, O1, _, w, A1, q1, hw.mono s1, fun vs H2 F2 O2 M2 ds A2 s2 r2 q2 => k (v :: vs) H2 F2 O2 M2 (d :: ds) A2 (s1.trans s2) ⟨v, vs, rfl, Rp.mono s2 _ _ r1, r2⟩ q2⟩⟩
def dTup (pl : PTA) : PTE := fun w ρ M q => pl w ρ M fun ds M1 => ds.length ≤ 1000000 ∧ q (.tup ds) M1
theorem de_tup {x1 : Nat} (h : DA X W es pl) : DE X W (.Tuple es x1 pos) (dTup pl) := pe_imp (pe_tup h) fun σ H Q ⟨g, ρ, M, F, O, q, w, A, p, hw, k⟩ =>
  ⟨g, ρ, M, F, O, _, w, A, p, hw, fun vs H1 F1 O1 M1 ds A1 s1 r1 ⟨z, q1⟩ => ⟨by rw [← r1.len]; exact line_big z, fun p hp =>
    have s := same_new (o := .tup vs) (A1.f0 hp)
    k (.ref p) _ _ O1 M1 (.tup ds) (A1.lay hp) (s1.trans s) ⟨p, vs, rfl, .inl (.inl upd_same), RpL.mono s _ _ r1⟩ q1⟩⟩
def dLst (pl : PTA) : PTA := fun w ρ M q => pl w ρ M fun ds M1 => ds.length ≤ 1000000 ∧ q ds M1
theorem dl_lst (h : DA X W es pl) : DL X W (.List es pos) (dLst pl) := pe_imp (pe_lst h) fun σ H Q ⟨g, ρ, M, F, O, q, w, A, p, hw, k⟩ =>
  ⟨g, ρ, M, F, O, _, w, A, p, hw, fun vs H1 F1 O1 M1 ds A1 s1 r1 ⟨z, q1⟩ => ⟨by rw [← r1.len]; exact line_big z, fun p hp =>
    k p vs _ F1 O1 M1 ds (A1.laid hp) s1 upd_same r1 (A1.f0 hp) (A1.o0 hp) (A1.g0 hp) q1⟩⟩

/-! ### x[i] -/
/-- the item at i, also from behind -/
def atD (l : List D) (i : Int) (k : D → Prop) : Prop := ∃ d, atI l i = some d ∧ k d
def fIx : F2
  | .lst l, .int i, k => atD l i k
  | .tup l, .int i, k => atD l i k
  | _, _, _ => False
theorem RpL.atI {K : PySem.W.Frag} {F : Hp} {ds : List D} {xs : List V} {i : Int} {d : D} (r : RpL K F ds xs) (h : L2.atI ds i = some d) : ∃ x, L2.atI xs i = some x ∧ Rp K F d x := by
  unfold L2.atI at h ⊢
  rw [← r.len]
  cases e : ixN ds.length i with
  | none => rw [e] at h; cases h
  | some j =>
    rw [e] at h
    exact r.get h
theorem opf_ix {K : PySem.W.Frag} : OpF K (rIx K) fIx := by
  intro g σ H ρ M F O x y v u k Q A rx ry h c
  unfold fIx at h
  split at h
  · rename_i l i
    obtain ⟨d, h1, h2⟩ := h
    obtain ⟨p, xs, e1, hp, r1⟩ := rx.lst A
    obtain ⟨z, h3, r3⟩ := r1.atI h1
    exact .inl ⟨p, xs, i, z, e1, ry.int, .inl (.inl hp), h3, c d z H F O A (Same.refl F) r3 h2⟩
  · rename_i l i
    obtain ⟨d, h1, h2⟩ := h
    obtain ⟨p, xs, e1, hp, r1⟩ := rx.tup A
    obtain ⟨z, h3, r3⟩ := r1.atI h1
    exact .inr (.inl ⟨p, xs, i, z, e1, ry.int, hp, h3, c d z H F O A (Same.refl F) r3 h2⟩)
  · exact h.elim
theorem de_ix (ha : DO X W a pa) (hb : DO X W i pb) (hs : PlainIx i := by exact fun _ _ => rfl) : DE X W (.Subscript a i pos) (dOp fIx pa pb) := pe_imp (pe_ix ix_seq ha hb hs) fun σ H Q h => op_run opf_ix h
end
end Px

set_option Elab.async false
set_option linter.all false
set_option maxRecDepth 100000
namespace Px
open PySem PySem.Spec PyProof.Rows L2

/-! ## calls of built-in functions -/
abbrev F1 := D → (D → Prop) → Prop
abbrev G1 := D → (List D → Prop) → Prop
def BF1 (K : PySem.W.Frag) (r : List V → Hp → VK → Prop) (f : F1) : Prop := ∀ g σ H ρ M F O x v (k : D → Prop) (Q : VK), Ab K g σ H ρ M F O → Vw K σ ρ F x v → f x k →
  (∀ z w H' F' O', Ab K g σ H' ρ M F' O' → Same F F' → Rp K F' z w → k z → Q w H') → r [v] H Q
/-- a new list is handed back -/
def BG1 (K : PySem.W.Frag) (r : List V → Hp → VK → Prop) (f : G1) : Prop := ∀ g σ H ρ M F O x v (k : List D → Prop) (Q : VK), Ab K g σ H ρ M F O → Vw K σ ρ F x v → f x k →
  (∀ ds p xs, H p = none → RpL K F ds xs → k ds → Q (.ref p) (upd H p (.lst xs))) → r [v] H Q
def BF2 (K : PySem.W.Frag) (r : List V → Hp → VK → Prop) (f : F2) : Prop := ∀ g σ H ρ M F O x y v u (k : D → Prop) (Q : VK), Ab K g σ H ρ M F O → Vw K σ ρ F x v → Vw K σ ρ F y u → f x y k →
  (∀ z w H' F' O', Ab K g σ H' ρ M F' O' → Same F F' → Rp K F' z w → k z → Q w H') → r [v, u] H Q
def dB1 (f : F1) (pa : PTE) : PTE := fun w ρ M q => pa w ρ M fun x M1 => f x fun z => q z M1
def dG1 (f : G1) (pa : PTE) : PTA := fun w ρ M q => pa w ρ M fun x M1 => f x fun z => q z M1
section
variable {X : Cx} {W : WX} {a b : Expr} {pa pb : PTE} {pos p : Pos} {x : Str} {idn T : String} {r : List V → Hp → VK → Prop}
theorem b1_run {f : F1} (hf : BF1 X.K r f) {σ : L2.St} {H : Hp} {Q : VK} (h : real X.K W (dB1 f pa) σ H Q) : tCB r (tCons (realO X.K W pa) tNil) σ H Q := by
  obtain ⟨g, ρ, M, F, O, q, w, A, p, hw, k⟩ := h
  exact ⟨g, ρ, M, F, O, _, w, A, p, hw, fun v H1 F1 O1 M1 d A1 s1 r1 q1 => hf g σ H1 ρ M1 F1 O1 d v _ Q A1 r1 q1 fun z w2 H2 F2 O2 A2 s2 r2 q2 => k w2 H2 F2 O2 M1 z A2 (s1.trans s2) r2 q2⟩
theorem g1_run {f : G1} (hf : BG1 X.K r f) {σ : L2.St} {H : Hp} {Q : VK} (h : realL X.K W (dG1 f pa) σ H Q) : tCB r (tCons (realO X.K W pa) tNil) σ H Q := by
  obtain ⟨g, ρ, M, F, O, q, w, A, p, hw, k⟩ := h
  exact ⟨g, ρ, M, F, O, _, w, A, p, hw, fun v H1 F1 O1 M1 d A1 s1 r1 q1 => hf g σ H1 ρ M1 F1 O1 d v _ Q A1 r1 q1 fun ds p xs hp rl q2 =>
    k p xs _ F1 O1 M1 ds (A1.laid hp) s1 upd_same rl (A1.f0 hp) (A1.o0 hp) (A1.g0 hp) q2⟩
theorem b2_run {f : F2} (hf : BF2 X.K r f) {σ : L2.St} {H : Hp} {Q : VK} (h : real X.K W (dOp f pa pb) σ H Q) : tCB r (tCons (realO X.K W pa) (tCons (realO X.K W pb) tNil)) σ H Q := by
  obtain ⟨g, ρ, M, F, O, q, w, A, p, hw, k⟩ := h
  exact ⟨g, ρ, M, F, O, _, w, A, p, hw, fun v H1 F1 O1 M1 d A1 s1 r1 q1 => ⟨g, ρ, M1, F1, O1, _, w, A1, q1, hw.mono s1, fun u H2 F2 O2 M2 e A2 s2 r2 q2 =>
    hf g σ H2 ρ M2 F2 O2 d e v u _ Q A2 (r1.mono s2) r2 q2 fun z w3 H3 F3 O3 A3 s3 r3 q3 => k w3 H3 F3 O3 M2 z A3 ((s1.trans s2).trans s3) r3 q3⟩⟩
section
variable (hg : Gl X x) (hm : X.mg x = none) (hn : x ≠ "__name__" := by decide) (hdb : (x == ("__debug__" : Str)) = false := by decide) (he : starEach [a] X.env = (false, eval a X.env) :: starEach [] X.env := by rfl)
theorem de_b1 {f : F1} (hc : CallR X (.builtin idn) r) (hf : BF1 X.K r f) (hg : Gl X x) (hm : X.mg x = none) (hv : bootBuiltins x = some (.builtin idn)) (ha : DO X W a pa) (hn : x ≠ "__name__" := by decide) (hdb : (x == ("__debug__" : Str)) = false := by decide)
    (he : starEach [a] X.env = (false, eval a X.env) :: starEach [] X.env := by rfl) (hpl : (backTo pos (starEach [] X.env)).any (·.1) = false := by rfl) : DE X W (.Call (.Name x p) [a] [] pos) (dB1 f pa) :=
  pe_imp (pe_callB hc hg hm hv (pa_cons ha pa_nil he) hn hdb he hpl) fun σ H Q h => b1_run hf h
theorem dl_b1 {f : G1} (hc : CallR X (.builtin idn) r) (hf : BG1 X.K r f) (hg : Gl X x) (hm : X.mg x = none) (hv : bootBuiltins x = some (.builtin idn)) (ha : DO X W a pa) (hn : x ≠ "__name__" := by decide) (hdb : (x == ("__debug__" : Str)) = false := by decide)
    (he : starEach [a] X.env = (false, eval a X.env) :: starEach [] X.env := by rfl) (hpl : (backTo pos (starEach [] X.env)).any (·.1) = false := by rfl) : DL X W (.Call (.Name x p) [a] [] pos) (dG1 f pa) :=
  pe_imp (pe_callB hc hg hm hv (pa_cons ha pa_nil he) hn hdb he hpl) fun σ H Q h => g1_run hf h
theorem de_t1 {f : F1} (hc : CallR X (.type T) r) (hf : BF1 X.K r f) (hg : Gl X x) (hm : X.mg x = none) (hv : bootBuiltins x = some (.type T)) (ha : DO X W a pa) (hn : x ≠ "__name__" := by decide) (hdb : (x == ("__debug__" : Str)) = false := by decide)
    (he : starEach [a] X.env = (false, eval a X.env) :: starEach [] X.env := by rfl) (hpl : (backTo pos (starEach [] X.env)).any (·.1) = false := by rfl) : DE X W (.Call (.Name x p) [a] [] pos) (dB1 f pa) :=
  pe_imp (pe_callTy hc hg hm hv (pa_cons ha pa_nil he) hn hdb he hpl) fun σ H Q h => b1_run hf h
theorem dl_t1 {f : G1} (hc : CallR X (.type T) r) (hf : BG1 X.K r f) (hg : Gl X x) (hm : X.mg x = none) (hv : bootBuiltins x = some (.type T)) (ha : DO X W a pa) (hn : x ≠ "__name__" := by decide) (hdb : (x == ("__debug__" : Str)) = false := by decide)
    (he : starEach [a] X.env = (false, eval a X.env) :: starEach [] X.env := by rfl) (hpl : (backTo pos (starEach [] X.env)).any (·.1) = false := by rfl) : DL X W (.Call (.Name x p) [a] [] pos) (dG1 f pa) :=
  pe_imp (pe_callTy hc hg hm hv (pa_cons ha pa_nil he) hn hdb he hpl) fun σ H Q h => g1_run hf h
theorem de_b2 {f : F2} (hc : CallR X (.builtin idn) r) (hf : BF2 X.K r f) (hg : Gl X x) (hm : X.mg x = none) (hv : bootBuiltins x = some (.builtin idn)) (ha : DO X W a pa) (hb : DO X W b pb) (hn : x ≠ "__name__" := by decide) (hdb : (x == ("__debug__" : Str)) = false := by decide)
    (he : starEach [a, b] X.env = (false, eval a X.env) :: starEach [b] X.env := by rfl) (he2 : starEach [b] X.env = (false, eval b X.env) :: starEach [] X.env := by rfl) (hpl : (backTo pos (starEach [b] X.env)).any (·.1) = false := by rfl) : DE X W (.Call (.Name x p) [a, b] [] pos) (dOp f pa pb) :=
  pe_imp (pe_callB hc hg hm hv (pa_cons ha (pa_cons hb pa_nil he2) he) hn hdb he hpl) fun σ H Q h => b2_run hf h
end

/-! ### len, min, max, abs, int, all, any, sum -/
def fLen : F1
  | .lst l, k => k (.int l.length)
  | .tup l, k => k (.int l.length)
  | .scr l, k => k (.int l.length)
  | .str s, k => s.length ≤ 1000000 ∧ k (.int s.length)
  | _, _ => False
theorem bf_len : BF1 X.K (fun xs H Q => ∃ x n, xs = [x] ∧ LenV X.K x H n ∧ Q (.int n) H) fLen := by
  intro g σ H ρ M F O x v k Q A rx h c
  unfold fLen at h
  split at h
  · rename_i l
    obtain ⟨a, xs, e, hp, r⟩ := rx.lst A
    exact ⟨v, xs.length, rfl, by rw [e]; exact .inl ⟨xs, .inl (.inl hp), rfl⟩, c (.int xs.length) _ H F O A (Same.refl F) rfl (by rw [← r.len]; exact h)⟩
  · rename_i l
    obtain ⟨a, xs, e, hp, r⟩ := rx.tup A
    exact ⟨v, xs.length, rfl, by rw [e]; exact .inr ⟨xs, hp, rfl⟩, c (.int xs.length) _ H F O A (Same.refl F) rfl (by rw [← r.len]; exact h)⟩
  · rename_i l
    obtain ⟨a, e, hp⟩ := rx.scr A
    exact ⟨v, (l.map V.int).length, rfl, by rw [e]; exact .inl ⟨_, hp, rfl⟩, c (.int l.length) _ H F O A (Same.refl F) (by rw [List.length_map]; rfl) h⟩
  · rename_i s
    exact ⟨v, s.length, rfl, by rw [rx.str]; exact ⟨line_big h.1, rfl⟩, c (.int s.length) _ H F O A (Same.refl F) rfl h.2⟩
  · exact h.elim
theorem de_len (hg : Gl X "len") (hm : X.mg "len" = none) (ha : DO X W a pa) (he : starEach [a] X.env = (false, eval a X.env) :: starEach [] X.env := by rfl) (hpl : (backTo pos (starEach [] X.env)).any (·.1) = false := by rfl) :
    DE X W (.Call (.Name "len" p) [a] [] pos) (dB1 fLen pa) := de_b1 call_len bf_len hg hm PySem.boot_len ha (by decide) (by decide) he hpl
def intsOf : List D → Option (List Int)
  | [] => some []
  | .int i :: r => (intsOf r).map (i :: ·)
  | _ => none
theorem intsOf_eq : ∀ {l : List D} {ns : List Int}, intsOf l = some ns → l = ns.map .int
  | [], ns, h => by cases h; rfl
  | d :: r, ns, h => by
    cases d with
    | int i =>
      have h' : (intsOf r).map (i :: ·) = some ns := h
      cases e : intsOf r with
      | none => rw [e] at h'; cases h'
      | some ms =>
        rw [e] at h'
        cases h'
        rw [intsOf_eq e]; rfl
    | _ => cases h
theorem intsOf_map : ∀ ns : List Int, intsOf (ns.map .int) = some ns
  | [] => rfl
  | n :: ns => by
    show (intsOf (ns.map .int)).map (n :: ·) = _
    rw [intsOf_map ns]; rfl
def boolsOf : List D → Option (List Bool)
  | [] => some []
  | .bl i :: r => (boolsOf r).map (i :: ·)
  | _ => none
theorem boolsOf_eq : ∀ {l : List D} {ns : List Bool}, boolsOf l = some ns → l = ns.map .bl
  | [], ns, h => by cases h; rfl
  | d :: r, ns, h => by
    cases d with
    | bl i =>
      have h' : (boolsOf r).map (i :: ·) = some ns := h
      cases e : boolsOf r with
      | none => rw [e] at h'; cases h'
      | some ms =>
        rw [e] at h'
        cases h'
        rw [boolsOf_eq e]; rfl
    | _ => cases h
theorem boolsOf_map : ∀ ns : List Bool, boolsOf (ns.map .bl) = some ns
  | [] => rfl
  | n :: ns => by
    show (boolsOf (ns.map .bl)).map (n :: ·) = _
    rw [boolsOf_map ns]; rfl
def minL : Int → List Int → Int
  | n, [] => n
  | n, m :: r => minL (if m < n then m else n) r
def maxL : Int → List Int → Int
  | n, [] => n
  | n, m :: r => maxL (if m > n then m else n) r
theorem minL_le : ∀ (r : List Int) (n : Int), minL n r ≤ n ∧ ∀ m ∈ r, minL n r ≤ m
  | [], n => ⟨Int.le_refl _, fun _ h => nomatch h⟩
  | m :: r, n => by
    obtain ⟨h1, h2⟩ := minL_le r (if m < n then m else n)
    have hd : minL n (m :: r) = minL (if m < n then m else n) r := rfl
    rw [hd]
    have hi : (if m < n then m else n) ≤ n ∧ (if m < n then m else n) ≤ m := by split <;> omega
    refine ⟨by omega, fun x hx => ?_⟩
    rcases List.mem_cons.mp hx with e | hx
    · rw [e]; omega
    · exact h2 x hx
theorem minL_mem : ∀ (r : List Int) (n : Int), minL n r ∈ n :: r
  | [], n => List.mem_cons_self
  | m :: r, n => by
    have h := minL_mem r (if m < n then m else n)
    have hd : minL n (m :: r) = minL (if m < n then m else n) r := rfl
    rw [hd]
    rcases List.mem_cons.mp h with e | e
    · rw [e]; split <;> simp
    · exact List.mem_cons_of_mem _ (List.mem_cons_of_mem _ e)
theorem maxL_le : ∀ (r : List Int) (n : Int), n ≤ maxL n r ∧ ∀ m ∈ r, m ≤ maxL n r
  | [], n => ⟨Int.le_refl _, fun _ h => nomatch h⟩
  | m :: r, n => by
    obtain ⟨h1, h2⟩ := maxL_le r (if m > n then m else n)
    have hd : maxL n (m :: r) = maxL (if m > n then m else n) r := rfl
    rw [hd]
    have hi : (if m > n then m else n) ≥ n ∧ (if m > n then m else n) ≥ m := by split <;> omega
    refine ⟨by omega, fun x hx => ?_⟩
    rcases List.mem_cons.mp hx with e | hx
    · rw [e]; omega
    · exact h2 x hx
theorem maxL_mem : ∀ (r : List Int) (n : Int), maxL n r ∈ n :: r
  | [], n => List.mem_cons_self
  | m :: r, n => by
    have h := maxL_mem r (if m > n then m else n)
    have hd : maxL n (m :: r) = maxL (if m > n then m else n) r := rfl
    rw [hd]
    rcases List.mem_cons.mp h with e | e
    · rw [e]; split <;> simp
    · exact List.mem_cons_of_mem _ (List.mem_cons_of_mem _ e)
def fMin : F1
  | .lst l, k => match intsOf l with | some (n :: r) => k (.int (minL n r)) | _ => False
  | _, _ => False
def fMax : F1
  | .lst l, k => match intsOf l with | some (n :: r) => k (.int (maxL n r)) | _ => False
  | _, _ => False
theorem bf_min : BF1 X.K (rMin X.K) fMin := by
  intro g σ H ρ M F O x v k Q A rx h c
  unfold fMin at h
  split at h
  · rename_i l
    split at h
    · rename_i n r e
      obtain ⟨a, xs, e1, hp, rl⟩ := rx.lst A
      rw [intsOf_eq e] at rl
      have ex := rl.ints
      subst ex
      refine ⟨a, n :: r, by rw [e1], .inl (.inl hp), Nat.succ_pos _, fun m hm hle => ?_⟩
      obtain ⟨h1, h2⟩ := minL_le r n
      have h3 := minL_mem r n
      have em : m = minL n r := by
        have q1 := hle _ h3
        rcases List.mem_cons.mp hm with z | z
        · omega
        · have q2 := h2 m z; omega
      rw [em]
      exact c (.int (minL n r)) _ H F O A (Same.refl F) rfl h
    · exact h.elim
  · exact h.elim
theorem bf_max : BF1 X.K (rMax X.K) fMax := by
  intro g σ H ρ M F O x v k Q A rx h c
  unfold fMax at h
  split at h
  · rename_i l
    split at h
    · rename_i n r e
      obtain ⟨a, xs, e1, hp, rl⟩ := rx.lst A
      rw [intsOf_eq e] at rl
      have ex := rl.ints
      subst ex
      refine ⟨a, n :: r, by rw [e1], .inl (.inl hp), Nat.succ_pos _, fun m hm hle => ?_⟩
      obtain ⟨h1, h2⟩ := maxL_le r n
      have h3 := maxL_mem r n
      have em : m = maxL n r := by
        have q1 := hle _ h3
        rcases List.mem_cons.mp hm with z | z
        · omega
        · have q2 := h2 m z; omega
      rw [em]
      exact c (.int (maxL n r)) _ H F O A (Same.refl F) rfl h
    · exact h.elim
  · exact h.elim
def fAll : F1
  | .lst l, k => match boolsOf l with | some bs => k (.bl (bs.all id)) | _ => False
  | _, _ => False
def fAny : F1
  | .lst l, k => match boolsOf l with | some bs => k (.bl (bs.any id)) | _ => False
  | _, _ => False
def fSum : F1
  | .lst l, k => match intsOf l with | some ns => k (.int ns.sum) | _ => False
  | _, _ => False
theorem bf_all : BF1 X.K (rAll X.K) fAll := by
  intro g σ H ρ M F O x v k Q A rx h c
  unfold fAll at h
  split at h
  · split at h
    · rename_i bs e
      obtain ⟨a, xs, e1, hp, rl⟩ := rx.lst A
      rw [boolsOf_eq e] at rl
      have ex := rl.bls
      subst ex
      exact ⟨a, bs, by rw [e1], .inl (.inl hp), c (.bl (bs.all id)) _ H F O A (Same.refl F) rfl h⟩
    · exact h.elim
  · exact h.elim
theorem bf_any : BF1 X.K (rAny X.K) fAny := by
  intro g σ H ρ M F O x v k Q A rx h c
  unfold fAny at h
  split at h
  · split at h
    · rename_i bs e
      obtain ⟨a, xs, e1, hp, rl⟩ := rx.lst A
      rw [boolsOf_eq e] at rl
      have ex := rl.bls
      subst ex
      exact ⟨a, bs, by rw [e1], .inl (.inl hp), c (.bl (bs.any id)) _ H F O A (Same.refl F) rfl h⟩
    · exact h.elim
  · exact h.elim
theorem bf_sum : BF1 X.K (rSum X.K) fSum := by
  intro g σ H ρ M F O x v k Q A rx h c
  unfold fSum at h
  split at h
  · split at h
    · rename_i bs e
      obtain ⟨a, xs, e1, hp, rl⟩ := rx.lst A
      rw [intsOf_eq e] at rl
      have ex := rl.ints
      subst ex
      exact ⟨a, bs, by rw [e1], .inl (.inl hp), c (.int bs.sum) _ H F O A (Same.refl F) rfl h⟩
    · exact h.elim
  · exact h.elim
def fAbs : F1
  | .int i, k => k (.int (if i < 0 then -i else i))
  | _, _ => False
theorem bf_abs : BF1 X.K (fun xs H Q => ∃ i, xs = [.int i] ∧ Q (.int (if i < 0 then -i else i)) H) fAbs := by
  intro g σ H ρ M F O x v k Q A rx h c
  unfold fAbs at h
  split at h
  · rename_i i
    exact ⟨i, by rw [rx.int], c (.int (if i < 0 then -i else i)) _ H F O A (Same.refl F) rfl h⟩
  · exact h.elim
def fInt : F1
  | .int i, k => k (.int i)
  | .bl b, k => k (.int (if b then 1 else 0))
  | _, _ => False
theorem bf_int : BF1 X.K (fun xs H Q => (∃ i, xs = [.int i] ∧ Q (.int i) H) ∨ ∃ k, xs = [.bl k] ∧ Q (.int (if k then 1 else 0)) H) fInt := by
  intro g σ H ρ M F O x v k Q A rx h c
  unfold fInt at h
  split at h
  · rename_i i
    exact .inl ⟨i, by rw [rx.int], c (.int i) _ H F O A (Same.refl F) rfl h⟩
  · rename_i b
    exact .inr ⟨b, by rw [rx.bl], c (.int (if b then 1 else 0)) _ H F O A (Same.refl F) rfl h⟩
  · exact h.elim
def fMin2 : F2
  | .int i, .int j, k => k (.int (if j < i then j else i))
  | _, _, _ => False
def fMax2 : F2
  | .int i, .int j, k => k (.int (if j > i then j else i))
  | _, _, _ => False
theorem bf_min2 : BF2 X.K (fun xs H Q => ∃ i j, xs = [.int i, .int j] ∧ Q (.int (if j < i then j else i)) H) fMin2 := by
  intro g σ H ρ M F O x y v u k Q A rx ry h c
  unfold fMin2 at h
  split at h
  · rename_i i j
    exact ⟨i, j, by rw [rx.int, ry.int], c (.int (if j < i then j else i)) _ H F O A (Same.refl F) rfl h⟩
  · exact h.elim
theorem bf_max2 : BF2 X.K (fun xs H Q => ∃ i j, xs = [.int i, .int j] ∧ Q (.int (if j > i then j else i)) H) fMax2 := by
  intro g σ H ρ M F O x y v u k Q A rx ry h c
  unfold fMax2 at h
  split at h
  · rename_i i j
    exact ⟨i, j, by rw [rx.int, ry.int], c (.int (if j > i then j else i)) _ H F O A (Same.refl F) rfl h⟩
  · exact h.elim
section
variable (he : starEach [a] X.env = (false, eval a X.env) :: starEach [] X.env)
theorem de_min (hc : X.calm = true) (hg : Gl X "min") (hm : X.mg "min" = none) (ha : DO X W a pa) (he : starEach [a] X.env = (false, eval a X.env) :: starEach [] X.env := by rfl) (hpl : (backTo pos (starEach [] X.env)).any (·.1) = false := by rfl) :
    DE X W (.Call (.Name "min" p) [a] [] pos) (dB1 fMin pa) := de_b1 (cr_min hc) bf_min hg hm (by decide +kernel) ha (by decide) (by decide) he hpl
theorem de_max (hc : X.calm = true) (hg : Gl X "max") (hm : X.mg "max" = none) (ha : DO X W a pa) (he : starEach [a] X.env = (false, eval a X.env) :: starEach [] X.env := by rfl) (hpl : (backTo pos (starEach [] X.env)).any (·.1) = false := by rfl) :
    DE X W (.Call (.Name "max" p) [a] [] pos) (dB1 fMax pa) := de_b1 (cr_max hc) bf_max hg hm (by decide +kernel) ha (by decide) (by decide) he hpl
theorem de_all (hc : X.calm = true) (hg : Gl X "all") (hm : X.mg "all" = none) (ha : DO X W a pa) (he : starEach [a] X.env = (false, eval a X.env) :: starEach [] X.env := by rfl) (hpl : (backTo pos (starEach [] X.env)).any (·.1) = false := by rfl) :
    DE X W (.Call (.Name "all" p) [a] [] pos) (dB1 fAll pa) := de_b1 (cr_all hc) bf_all hg hm (by decide +kernel) ha (by decide) (by decide) he hpl
theorem de_any (hc : X.calm = true) (hg : Gl X "any") (hm : X.mg "any" = none) (ha : DO X W a pa) (he : starEach [a] X.env = (false, eval a X.env) :: starEach [] X.env := by rfl) (hpl : (backTo pos (starEach [] X.env)).any (·.1) = false := by rfl) :
    DE X W (.Call (.Name "any" p) [a] [] pos) (dB1 fAny pa) := de_b1 (cr_any hc) bf_any hg hm (by decide +kernel) ha (by decide) (by decide) he hpl
theorem de_sum (hc : X.calm = true) (hg : Gl X "sum") (hm : X.mg "sum" = none) (ha : DO X W a pa) (he : starEach [a] X.env = (false, eval a X.env) :: starEach [] X.env := by rfl) (hpl : (backTo pos (starEach [] X.env)).any (·.1) = false := by rfl) :
    DE X W (.Call (.Name "sum" p) [a] [] pos) (dB1 fSum pa) := de_b1 (cr_sum hc) bf_sum hg hm (by decide +kernel) ha (by decide) (by decide) he hpl
theorem de_abs (hg : Gl X "abs") (hm : X.mg "abs" = none) (ha : DO X W a pa) (he : starEach [a] X.env = (false, eval a X.env) :: starEach [] X.env := by rfl) (hpl : (backTo pos (starEach [] X.env)).any (·.1) = false := by rfl) :
    DE X W (.Call (.Name "abs" p) [a] [] pos) (dB1 fAbs pa) := de_b1 call_abs bf_abs hg hm (by decide +kernel) ha (by decide) (by decide) he hpl
theorem de_intc (hg : Gl X "int") (hm : X.mg "int" = none) (ha : DO X W a pa) (he : starEach [a] X.env = (false, eval a X.env) :: starEach [] X.env := by rfl) (hpl : (backTo pos (starEach [] X.env)).any (·.1) = false := by rfl) :
    DE X W (.Call (.Name "int" p) [a] [] pos) (dB1 fInt pa) := de_t1 call_int1 bf_int hg hm (by decide +kernel) ha (by decide) (by decide) he hpl
theorem de_min2 (hc : X.calm = true) (hg : Gl X "min") (hm : X.mg "min" = none) (ha : DO X W a pa) (hb : DO X W b pb) (he : starEach [a, b] X.env = (false, eval a X.env) :: starEach [b] X.env := by rfl) (he2 : starEach [b] X.env = (false, eval b X.env) :: starEach [] X.env := by rfl)
    (hpl : (backTo pos (starEach [b] X.env)).any (·.1) = false := by rfl) : DE X W (.Call (.Name "min" p) [a, b] [] pos) (dOp fMin2 pa pb) := de_b2 (call_min2 hc) bf_min2 hg hm (by decide +kernel) ha hb (by decide) (by decide) he he2 hpl
theorem de_max2 (hc : X.calm = true) (hg : Gl X "max") (hm : X.mg "max" = none) (ha : DO X W a pa) (hb : DO X W b pb) (he : starEach [a, b] X.env = (false, eval a X.env) :: starEach [b] X.env := by rfl) (he2 : starEach [b] X.env = (false, eval b X.env) :: starEach [] X.env := by rfl)
    (hpl : (backTo pos (starEach [b] X.env)).any (·.1) = false := by rfl) : DE X W (.Call (.Name "max" p) [a, b] [] pos) (dOp fMax2 pa pb) := de_b2 (call_max2 hc) bf_max2 hg hm (by decide +kernel) ha hb (by decide) (by decide) he he2 hpl
end

/-! ### isinstance with a built-in type -/
def tyD : D → Option String
  | .non => some "NoneType"
  | .bl _ => some "bool"
  | .int _ => some "int"
  | .str _ => some "str"
  | .tup _ => some "tuple"
  | .lst _ => some "list"
  | .dic _ _ => some "dict"
  | .scr _ => some "list"
  | _ => none
def subTy (a t : String) : Bool := a == t || (a == "bool" && t == "int")
def tys : List String := ["NoneType", "bool", "int", "str", "tuple", "list", "dict"]
theorem kit_tys : ∀ a ∈ tys, ∀ t ∈ tys, kitB a t = some (subTy a t) := by decide +kernel
theorem tyD_mem {d : D} {a : String} (h : tyD d = some a) : a ∈ tys := by
  cases d <;> first | (cases h; decide) | cases h
theorem vw_ty {K : PySem.W.Frag} {g : Gh} {σ : L2.St} {H : Hp} {ρ : Rho} {M : Mm} {F : Hp} {O : Own} {d : D} {v : V} {t : String} (A : Ab K g σ H ρ M F O) (r : Vw K σ ρ F d v) (h : tyD d = some t) : TyX K H v (.type t) := by
  cases d with
  | non => cases h; rw [r.non]; exact .base .non
  | bl b => cases h; rw [r.bl]; exact .base (.bl b)
  | int i => cases h; rw [r.int]; exact .base (.int i)
  | str s => cases h; rw [r.str]; exact .base (.str s)
  | lst l =>
    cases h
    obtain ⟨a, xs, e, hp, _⟩ := r.lst A
    rw [e]; exact .base (.lst hp)
  | tup l =>
    cases h
    obtain ⟨a, xs, e, hp, _⟩ := r.tup A
    rw [e]
    rcases hp with (hp | ⟨o, hp⟩) | ⟨o, its, n, hk, hc, _⟩
    · exact .base (.tup hp)
    · exact .fTuple hp
    · exact .kTuple hk hc
  | scr l =>
    cases h
    obtain ⟨a, e, hp⟩ := r.scr A
    rw [e]
    rcases hp with (hp | ⟨o, hp⟩) | ⟨o, its, n, hk, hc, _⟩
    · exact .base (.lst hp)
    · exact .base (.frz hp)
    · exact .kList hk hc
  | dic ks l =>
    cases h
    rcases r with ⟨a, kvs, e, hp, _⟩ | ⟨_, _, _, _, _, _, z⟩
    · rw [e]
      rcases same_rd A.sub hp with hp | ⟨o, hp⟩
      · exact .base (.dK hp)
      · exact .fDict hp
    · cases z
  | obj _ _ _ => cases h
  | raw _ => cases h
def fIsi (t : String) : F1 := fun d k => match tyD d with | some a => k (.bl (subTy a t)) | none => False
theorem de_isi (T : String) (hT : T ∈ tys) {x2 : Str} {p2 : Pos} (hg : Gl X "isinstance") (hm : X.mg "isinstance" = none) (hg2 : Gl X x2) (hm2 : X.mg x2 = none) (hv2 : bootBuiltins x2 = some (.type T)) (ha : DO X W a pa)
    (hn2 : x2 ≠ "__name__" := by decide) (hd2 : (x2 == ("__debug__" : Str)) = false := by decide)
    (he : starEach [a, .Name x2 p2] X.env = (false, eval a X.env) :: starEach [.Name x2 p2] X.env := by rfl) (he2 : starEach [.Name x2 p2] X.env = (false, eval (.Name x2 p2) X.env) :: starEach [] X.env := by rfl)
    (hpl : (backTo pos (starEach [.Name x2 p2] X.env)).any (·.1) = false := by rfl) : DE X W (.Call (.Name "isinstance" p) [a, .Name x2 p2] [] pos) (dB1 (fIsi T) pa) :=
  pe_imp (pe_callB call_isi hg hm (by decide +kernel) (pa_cons ha (pa_cons (pe_bltn (v := .ty T) hg2 hm2 hv2 rfl hn2 hd2) pa_nil he2) he) (by decide) (by decide) he hpl) fun σ H Q ⟨g, ρ, M, F, O, q, w, A, p, hw, k⟩ =>
  ⟨g, ρ, M, F, O, _, w, A, p, hw, fun v H1 F1 O1 M1 d A1 s1 r1 q1 => by
    cases e : tyD d with
    | none => simp only [fIsi, e] at q1
    | some t =>
      simp only [fIsi, e] at q1
      exact ⟨v, .ty T, _, _, subTy t T, rfl, .ty T, vw_ty A1 r1 e, kit_ty (kit_tys t (tyD_mem e) T hT), k (.bl (subTy t T)) H1 F1 O1 M1 (.bl (subTy t T)) A1 s1 rfl q1⟩⟩
end
end Px

set_option Elab.async false
set_option linter.all false
set_option maxRecDepth 100000
namespace Px
open PySem PySem.Spec PyProof.Rows L2

/-! ## defs: their promises over plain data -/
abbrev PSp := List D → Mm → PQ → PX → Prop
/-- what a call leaves of the state at which it was made -/
def Aft (K : PySem.W.Frag) (H : Hp) (F : Hp) (O : Own) (H' : Hp) (M' : Mm) (F' : Hp) (O' : Own) : Prop :=
  Wd K ⟨H, F, fun a => ∃ m, O a = some (.obj m), []⟩ H' M' F' O' ∧ ∀ a o, O' a = some o → ∃ m, o = .obj m
def toSp (K : PySem.W.Frag) (n : Nat) (sp : PSp) : Sp := fun vs H Q E => ∃ g F M O ds q e, vs.length = n ∧ Wd K g H M F O ∧ RpL K F ds vs ∧ sp ds M q e ∧
  (∀ v H' F' O' M' d, Aft K H F O H' M' F' O' → Rp K F' d v → q d M' → Q v H') ∧
  (∀ cls dd H' F' O' M' fs, Aft K H F O H' M' F' O' → ExOk K F' dd fs → e cls fs M' → E cls dd H')

section
variable {K : PySem.W.Frag} {g : Gh} {σ : L2.St} {H H' : Hp} {ρ : Rho} {M M' : Mm} {F F' : Hp} {O O' : Own}
open Classical in
/-- back behind a call -/
theorem Ab.after2 (A : Ab K g σ H ρ M F O) (B : Aft K H F O H' M' F' O') : ∃ O2, Ab K g σ H' ρ M' F' O2 ∧ Same F F' ∧ ∀ a, O a = none → O2 a = O' a := by
  obtain ⟨B, hb⟩ := B
  have s : Same F F' := B.ext0
  have nobj : ∀ {a o}, O a = some o → (∀ m, o ≠ .obj m) → ¬ ∃ m, O a = some (.obj m) := fun e n ⟨m, z⟩ => by rw [e] at z; exact n m (Option.some.inj z)
  have keep : ∀ {a o u}, O a = some o → (∀ m, o ≠ .obj m) → H a = some u → H' a = some u := fun {a o u} e n h => B.frm a u h (nobj e n)
  have apart : ∀ {a o o'}, O a = some o → (∀ m, o ≠ .obj m) → O' a = some o' → False := fun {a o o'} e n e' => by
    obtain ⟨⟨x, hx⟩, _⟩ := A.liv a o e
    rcases (B.liv a o' e').2.2 with z | z
    · exact nobj e n z
    · rw [show H a = none from z] at hx; cases hx
  refine ⟨fun a => if (∃ o, O a = some o ∧ ∀ m, o ≠ .obj m) then O a else O' a, ?_, s, fun a e => if_neg (by
    rintro ⟨u, e1, _⟩
    rw [e] at e1; cases e1)⟩
  have priv : ∀ {a o}, O a = some o → (∀ m, o ≠ .obj m) → (if (∃ o, O a = some o ∧ ∀ m, o ≠ .obj m) then O a else O' a) = some o := fun e n => by rw [if_pos ⟨_, e, n⟩]; exact e
  have publ : ∀ {a o}, O' a = some o → (if (∃ o, O a = some o ∧ ∀ m, o ≠ .obj m) then O a else O' a) = some o := fun {a o} e => by
    rw [if_neg]
    · exact e
    · rintro ⟨u, e1, n⟩
      exact apart e1 n e
  exact { sub := B.sub, ext0 := A.ext0.trans s
          new := fun a o e => by
            rcases B.new a o e with z | z
            · exact A.new a o z
            · exact .inr (A.g0 z)
          frm := fun a o e n => by
            refine B.frm a o (A.frm a o e n) ?_
            rintro ⟨m, z⟩
            rcases (A.liv a _ z).2.2 with y | y
            · exact n y
            · rw [e] at y; cases y
          thr := fun a o e => by
            obtain ⟨o1, z⟩ := A.thr a o e
            exact B.thr a o1 z
          liv := fun a o e => by
            by_cases c : ∃ o, O a = some o ∧ ∀ m, o ≠ .obj m
            · rw [if_pos c] at e
              obtain ⟨u, e1, n⟩ := c
              rw [e] at e1; cases e1
              obtain ⟨⟨x, hx⟩, hF, h0⟩ := A.liv a o e
              refine ⟨⟨x, keep e n hx⟩, ?_, h0⟩
              cases z : F' a with
              | none => rfl
              | some y =>
                rcases B.new a y z with w | w
                · rw [show F a = some y from w] at hF; cases hF
                · rw [show H a = none from w] at hx; cases hx
            · rw [if_neg c] at e
              obtain ⟨h1, h2, h3⟩ := B.liv a o e
              refine ⟨h1, h2, ?_⟩
              rcases h3 with ⟨m, z⟩ | z
              · exact (A.liv a _ z).2.2
              · exact .inr (A.g0 z)
          slo := fun a o e n => by
            by_cases c : ∃ o, O a = some o ∧ ∀ m, o ≠ .obj m
            · rw [if_pos c] at e
              exact A.slo a o e n
            · rw [if_neg c] at e
              obtain ⟨m, z⟩ := hb a o e
              exact absurd z (n m)
          tm := fun p l e => by
            obtain ⟨xs, e1, e2, e3⟩ := A.tm p l e
            exact ⟨xs, keep e3 (fun _ z => by cases z) e1, RpL.mono s _ _ e2, priv e3 (fun _ z => by cases z)⟩
          mu := fun a mo e => (B.mu a mo e).mono (Same.refl F') fun q u e1 e2 => ⟨e1, publ e2⟩
          len := A.len
          sl := fun i sv e => by
            obtain ⟨v, e1, r⟩ := A.sl i sv e
            exact ⟨v, e1, r.mono s fun p xs e2 e3 => ⟨keep e3 (fun _ z => by cases z) e2, priv e3 (fun _ z => by cases z)⟩⟩ }
theorem Ab.after (A : Ab K g σ H ρ M F O) (B : Aft K H F O H' M' F' O') : ∃ O2, Ab K g σ H' ρ M' F' O2 ∧ Same F F' :=
  let ⟨O2, h1, h2, _⟩ := A.after2 B
  ⟨O2, h1, h2⟩
def startR (n : Nat) (ds : List D) : Rho := ds.map (fun d => some (.val d)) ++ List.replicate (n - ds.length) none
theorem gt_app : ∀ (ds : List D) (i n : Nat) {sv : Sv}, gt (ds.map (fun d => some (Sv.val d)) ++ List.replicate n none) i = some sv → ∃ d, sv = .val d ∧ ds[i]? = some d
  | [], i, n, sv, h => by
    have key : ∀ (n i : Nat), gt (List.replicate n none) i = none := by
      intro n
      induction n with
      | zero => intro i; rfl
      | succ n ih => intro i; cases i with | zero => rfl | succ i => exact ih i
    have h' : gt (List.replicate n none) i = some sv := h
    rw [key] at h'; cases h'
  | d :: ds, 0, n, sv, h => ⟨d, (Option.some.inj h).symm, rfl⟩
  | d :: ds, i + 1, n, sv, h => by
    obtain ⟨e, h1, h2⟩ := gt_app ds i n (sv := sv) h
    exact ⟨e, h1, by simpa using h2⟩
def objs (O : Own) : Own := fun a => match O a with | some (.obj m) => some (.obj m) | _ => none
theorem objs_of {O : Own} {a : Addr} {o : Ow} (h : objs O a = some o) : ∃ m, o = .obj m ∧ O a = some (.obj m) := by
  unfold objs at h
  split at h
  · rename_i m e
    cases h
    exact ⟨m, rfl, e⟩
  · cases h
theorem objs_to {O : Own} {a m : Addr} (h : O a = some (.obj m)) : objs O a = some (.obj m) := by
  unfold objs
  rw [h]
/-- at the beginning of a def -/
theorem Wd.enter {ds : List D} {vs : List V} {N : List Str} (A : Wd K g H M F O) (r : RpL K F ds vs) : Ab K ⟨H, F, fun a => ∃ m, O a = some (.obj m), []⟩ (L2.start N vs) H (startR N.length ds) M F (objs O) :=
  { sub := A.sub, ext0 := Same.refl F, new := fun a o e => .inl e, frm := fun a o e _ => e, thr := fun a o e => ⟨o, e⟩
    liv := fun a o e => by
      obtain ⟨m, rfl, e1⟩ := objs_of e
      obtain ⟨h1, h2, _⟩ := A.liv a _ e1
      exact ⟨h1, h2, .inl ⟨m, e1⟩⟩
    slo := fun a o e n => by
      obtain ⟨m, rfl, e1⟩ := objs_of e
      exact absurd rfl (n m)
    tm := fun p l e => absurd e (by simp)
    mu := fun a mo e => (A.mu a mo e).mono (Same.refl F) fun q u e1 e2 => ⟨e1, objs_to e2⟩
    len := by
      unfold startR L2.start
      rw [List.length_append, List.length_append, List.length_map, List.length_map, List.length_replicate, List.length_replicate, r.len]
    sl := fun i sv e => by
      obtain ⟨d, rfl, e1⟩ := gt_app ds i _ e
      obtain ⟨v, e2, r2⟩ := r.get e1
      refine ⟨v, ?_, r2⟩
      unfold L2.start
      have hi : i < vs.length := (List.getElem?_eq_some_iff.mp e2).1
      rw [List.getElem?_append_left (by simpa using hi), List.getElem?_map, e2]
      rfl }
/-- what is known of fewer things -/
def MLe (M' M : Mm) : Prop := ∀ a mo, M' a = some mo → M a = some mo
theorem MLe.refl (M : Mm) : MLe M M := fun _ _ h => h
/-- at the end of a def -/
theorem Ab.leave {H0 : Hp} {F0 : Hp} {w : Addr → Prop} (A : Ab K ⟨H0, F0, w, []⟩ σ H ρ M F O) (h : MLe M' M) : Wd K ⟨H0, F0, w, []⟩ H M' F (objs O) ∧ ∀ a o, objs O a = some o → ∃ m, o = .obj m := by
  refine ⟨?_, fun a o e => let ⟨m, e1, _⟩ := objs_of e; ⟨m, e1⟩⟩
  exact { sub := A.sub, ext0 := A.ext0, new := A.new, frm := A.frm, thr := A.thr
          liv := fun a o e => by
            obtain ⟨m, rfl, e1⟩ := objs_of e
            exact A.liv a _ e1
          slo := fun a o e n => by
            obtain ⟨m, rfl, e1⟩ := objs_of e
            exact absurd rfl (n m)
          tm := fun p l e => absurd e (by simp)
          mu := fun a mo e => (A.mu a mo (h a mo e)).mono (Same.refl F) fun q u e1 e2 => ⟨e1, objs_to e2⟩ }
end

/-! ### a def of the text -/
section
variable (P : Program) (w : World) (K : PySem.W.Frag) (mg : Str → Option Value) (base : Heap)
/-- as the layer's FnOk, called where no repr is going on -/
structure FnG (k : Nat) (f : Addr) (fd : FuncData) (ps : List Str) (sp : Sp) : Prop where
  len : ∀ vs H Q E, sp vs H Q E → vs.length = ps.length
  run : ∀ (A : Around) (outer : List Env) (s : Shared) (H : Hp) (args : Args) (us : List Value) (vs : List V) (Q : VK) (E : XK), Room k A → A.guards = some [] → Env0 P w K mg base A outer s H →
    BindsTo s fd args (ps.zip us) → Vals vs us → sp vs H Q E → codeAny (model P w) A (.call (.ref f) args) (CR (L2.CX P w) outer P w H s Q E) s
end
section
variable {P : Program} {w : World} {K : PySem.W.Frag} {mg : Str → Option Value} {base : Heap} {j k : Nat} {f : Addr} {fd : FuncData} {ps N : List Str}
theorem FnG.mono {sp : Sp} (Fg : FnG P w K mg base j f fd ps sp) (h : j ≤ k) : FnG P w K mg base k f fd ps sp := ⟨Fg.len, fun A o s H a us vs Q E r => Fg.run A o s H a us vs Q E (r.mono h)⟩
theorem toSp_len {n : Nat} {sp : PSp} {vs : List V} {H : Hp} {Q : VK} {E : XK} (h : toSp K n sp vs H Q E) : vs.length = n := by
  obtain ⟨_, _, _, _, _, _, _, e, _⟩ := h
  exact e
/-- the wish of a def's body -/
abbrev WE (E : XK) : WX := fun cls d _ H => E cls d H
theorem Fun.gok {x qual : Str} {stm : Stmt} {sp : Sp} (Fn : L2.Fun K x qual stm f fd) (S : FnScope N ps (defScope stm)) (hn : ∀ vs H Q E, sp vs H Q E → vs.length = ps.length)
    (hbody : ∀ (cdv : Value) (A : Around) (outer : List Env) (s : Shared) (H : Hp) (vs : List V) (Q : VK) (E : XK), Room k (A.deeper (envOfC qual (defScope stm) s.heap.objs.size f cdv)) → A.guards = some [] → sp vs H Q E →
      ∃ t : TS, PSs (cxOf (L2.CX P w) P w K mg base N qual (defScope stm) f cdv A outer s H E) (defBody stm) t ∧ t { nx := fun _ H' => Q .non H', rt := Q } (L2.start N vs) H) :
    FnG P w K mg base (k + 1) f fd ps sp := by
  obtain ⟨oc, od, kV, doc, pm, an, cdv, ct, osl, rfl, lk, hcd⟩ := Fn.ex
  refine ⟨hn, fun A outer s H args us vs Q E hr hG e0 hb r hsp => ?_⟩
  have hl : vs.length = ps.length := hn _ _ _ _ hsp
  have KX : K.In s.heap := e0.mod.kin.keeps fun b o e => (e0.bs b o e).1
  have lim : s.heap.NoLimit := e0.mod.nolimit.keeps fun b o e => (e0.bs b o e).1
  have kinds : ∀ y ∈ ps.zip us, (defScope stm).names.lookup y.1 = some .local ∨ ((defScope stm).names.lookup y.1 = some .cell ∧ ((cellsFrom (s.heap.objs.size + 1) (defScope stm).names []).lookup y.1).isSome = true) := by
    rintro ⟨n, v⟩ hy
    rcases S.par n (List.of_mem_zip hy).1 with q | q
    · exact .inl q
    · exact .inr ⟨q, PySem.W.cellsFrom_some _ _ _ (.inl q)⟩
  refine codeAny_call_function hr.depth (KX _ _ lk) rfl S.co S.gen rfl (PySem.W.codeRec_of KX hcd) (hb _ _ _ _ ?_)
  refine wpAny_newFunctionEnv_cells S.kind kinds fun env he s1 x => ?_
  subst he
  refine ⟨lim.keeps x.toInCall.keep, codeAny_func ?_⟩
  obtain ⟨t, ht, hq⟩ := hbody cdv A outer s H vs Q E (hr.deeper _) hG hsp
  have I := inv_start (CX := L2.CX P w) (E := E) (qual := qual) (f := f) (cd := cdv) (A := A) S hr.hd e0 hl r x
  refine wpAny_mono (ht.run [] s1 (L2.start N vs) H { nx := fun _ H' => Q .non H', rt := Q } I hq) (fun fl s' hs => ?_) fun e s' hs => hs
  cases fl with
  | ret u =>
    obtain ⟨v, σ', H', J, rv, q⟩ := hs
    exact ⟨v, H', J.os, J.bare, J.base, J.hok, rv, q⟩
  | next =>
    obtain ⟨σ', H', J, q⟩ := hs
    exact ⟨.non, H', J.os, J.bare, J.base, J.hok, rfl, q⟩
  | brk =>
    obtain ⟨_, _, _, q⟩ := hs
    exact q.elim
  | cont =>
    obtain ⟨_, _, _, q⟩ := hs
    exact q.elim
/-- what a body's reading is to show -/
def Shows (sp : PSp) (N : Nat) (p : PTS) : Prop := ∀ ds M q e, sp ds M q e →
  p (fun cls fs _ M' => ∃ M2, MLe M2 M' ∧ e cls fs M2) { nx := fun _ M' => ∃ M2, MLe M2 M' ∧ q .non M2, rt := fun d M' => ∃ M2, MLe M2 M' ∧ q d M2 } (startR N ds) M
theorem Fun.pok {x qual : Str} {stm : Stmt} {n : Nat} {sp : PSp} {p : PTS} (Fn : L2.Fun K x qual stm f fd) (S : FnScope N ps (defScope stm)) (hn : ps.length = n) (hs : Shows sp N.length p)
    (hbody : ∀ (cdv : Value) (A : Around) (outer : List Env) (s : Shared) (H : Hp) (E : XK), Room k (A.deeper (envOfC qual (defScope stm) s.heap.objs.size f cdv)) → A.guards = some [] →
      DSs (cxOf (L2.CX P w) P w K mg base N qual (defScope stm) f cdv A outer s H E) (WE E) (defBody stm) p) :
    FnG P w K mg base (k + 1) f fd ps (toSp K n sp) := by
  refine Fun.gok Fn S (fun vs H Q E h => by rw [toSp_len h, hn]) fun cdv A outer s H vs Q E hr hG hsp => ⟨_, hbody cdv A outer s H E hr hG, ?_⟩
  obtain ⟨g, F, M, O, ds, q, e, _, A0, rp, hsp, hQ, hE⟩ := hsp
  refine ⟨_, _, _, _, _, _, _, A0.enter (N := N) rp, hs ds M q e hsp, ?_, ?_, ?_, ?_, ?_, ?_⟩
  · intro cls dd σ' H' ρ' M' F' O' fs A2 s2 x2 ⟨M2, h1, h2⟩
    exact hE cls dd H' F' _ M2 fs (A2.leave h1) x2 h2
  · intro σ' H' ρ' M' F' O' A2 s2 ⟨M2, h1, h2⟩
    exact hQ .non H' F' _ M2 .non (A2.leave h1) rfl h2
  · intro v σ' H' ρ' M' F' O' d A2 s2 r2 ⟨M2, h1, h2⟩
    exact hQ v H' F' _ M2 d (A2.leave h1) r2 h2
  · intro σ' H' ρ' M' F' O' A2 s2 z; exact z.elim
  · intro σ' H' ρ' M' F' O' A2 s2 z; exact z.elim
  · intro a xs σ' H' ρ' M' F' O' ds A2 s2 e1 e2 e3 e4 e5 z; exact z.elim
end

/-! ### calls of such defs -/
section
variable {X : Cx} {W : WX} {k n : Nat} {f : Addr} {fd : FuncData} {ps : List Str} {sp : PSp} {x : Str} {p pos : Pos} {e : Expr} {es : List Expr} {pl : PTA} {ds : List Value} {dd : List D} {dvs : List V}
theorem run_g {sp : Sp} {pins : List (Addr × Obj)} {σ : L2.St} {H : Hp} {s : Shared} {Q : VK} {us : List Value} {vs : List V} (Fg : FnG X.prog X.w X.K X.mg X.base k f fd ps sp) (hr : Room k X.A) (hG : X.A.guards = some []) (hb : Binds X.K fd ps ds) (hd : Vals dvs ds)
    (tk : Takes X W) (I : Inv X pins σ H s) (r : Vals vs us) (h : sp (vs ++ dvs) H Q (fun cls d H' => W cls d σ H')) : wpAny (model X.prog X.w) X.A (call (.ref f) us) (EP X pins σ Q) X.xe s := by
  have r2 : Vals (vs ++ dvs) (us ++ ds) := r.append hd
  have hl : (us ++ ds).length = ps.length := by rw [← r2.length]; exact Fg.len _ _ _ _ h
  refine wpAny_call (codeAny_mono (Fg.run X.A X.stack s H ⟨us, []⟩ (us ++ ds) (vs ++ dvs) Q _ hr hG I.env0 (hb s us I.kIn hl) r2 h) fun r s' hq => ?_)
  cases r with
  | error e => exact tk e s' (XE.of_call I (fun _ _ _ h => h) hq)
  | ok fl =>
    cases fl with
    | ret u => exact I.after hq
    | next => exact hq.elim
    | brk => exact hq.elim
    | cont => exact hq.elim
def dCall (sp : PSp) (dd : List D) (pl : PTA) : PTE := fun w ρ M q => pl w ρ M fun ds M1 => sp (ds ++ dd) M1 q fun cls fs M2 => w cls fs ρ M2
theorem call_reading {K : PySem.W.Frag} {g : Gh} {σ : L2.St} {H : Hp} {ρ : Rho} {M : Mm} {F : Hp} {O : Own} {w : PWi} {q : PQ} {ds : List D} {vs : List V} {Q : VK} (hn : ps.length = n) (hd : ∀ F, RpL K F dd dvs) (A : Ab K g σ H ρ M F O) (hw : WOk K g F W w)
    (r : RpL K F ds vs) (hl : (ds ++ dd).length = n) (h : sp (ds ++ dd) M q fun cls fs M2 => w cls fs ρ M2) (k : ∀ v H' F' O' M' d, Ab K g σ H' ρ M' F' O' → Same F F' → Rp K F' d v → q d M' → Q v H') :
    toSp K n sp (vs ++ dvs) H Q fun cls d H' => W cls d σ H' := by
  have r2 := r.app (hd F)
  refine ⟨g, F, M, O, ds ++ dd, q, _, by rw [← hl, r2.len], A.toWd, r2, h, fun v H' F' O' M' d B rd hq => ?_, fun cls dd H' F' O' M' fs B x hq => ?_⟩
  · obtain ⟨O2, A2, s⟩ := A.after B
    exact k v H' F' O2 M' d A2 s rd hq
  · obtain ⟨O2, A2, s⟩ := A.after B
    exact hw cls dd σ H' ρ M' F' O2 fs A2 s x hq
theorem de_callD (Fg : FnG X.prog X.w X.K X.mg X.base k f fd ps (toSp X.K n sp)) (hn : ps.length = n) (hlen : ∀ ds M q e, sp ds M q e → ds.length = n) (hr : Room k X.A) (hG : X.A.guards = some []) (hg : Gl X x) (hm : X.mg x = some (.ref f))
    (hk : PySem.W.keepIn X.K (.ref f) = true) (hb : Binds X.K fd ps ds) (hv : Vals dvs ds) (hd : ∀ F, RpL X.K F dd dvs) (tk : Takes X W) (ha : DA X W (e :: es) pl) (hdb : (x == ("__debug__" : Str)) = false := by decide)
    (he : starEach (e :: es) X.env = (false, eval e X.env) :: starEach es X.env := by rfl) (hpl : (backTo pos (starEach es X.env)).any (·.1) = false := by rfl) : DE X W (.Call (.Name x p) (e :: es) [] pos) (dCall sp dd pl) := by
  refine ⟨fun pins s σ H Q I ⟨g, ρ, M, F, O, q, w, A, pr, hw, k⟩ => ?_⟩
  refine wpAny_Call_Name_kw (ld_glob I hg hm ?_ hdb)
  refine PySem.W.callWith_K (h₀ := X.base) I.ok.mod.kin hk (thn (ha.run pos pins s σ H (fun vs H1 => toSp X.K n sp (vs ++ dvs) H1 Q fun cls d H' => W cls d σ H') I ?_) fun us s1 hh => ?_) he hpl
  · exact ⟨g, ρ, M, F, O, _, w, A, pr, hw, fun vs H1 F1 O1 M1 d1 A1 s1 r1 q1 => call_reading hn hd A1 (hw.mono s1) r1 (hlen _ _ _ _ q1) q1 fun v H2 F2 O2 M2 d2 A2 s2 r2 q2 => k v H2 F2 O2 M2 d2 A2 (s1.trans s2) r2 q2⟩
  · obtain ⟨vs, H1, I1, r, q1⟩ := hh
    exact ⟨I1.kIn, run_g Fg hr hG hb hv tk I1 r q1⟩
theorem de_call (Fg : FnG X.prog X.w X.K X.mg X.base k f fd ps (toSp X.K n sp)) (hn : ps.length = n) (hlen : ∀ ds M q e, sp ds M q e → ds.length = n) (hr : Room k X.A) (hG : X.A.guards = some []) (hg : Gl X x) (hm : X.mg x = some (.ref f))
    (hk : PySem.W.keepIn X.K (.ref f) = true) (hb : Binds X.K fd ps []) (tk : Takes X W) (ha : DA X W (e :: es) pl) (hdb : (x == ("__debug__" : Str)) = false := by decide)
    (he : starEach (e :: es) X.env = (false, eval e X.env) :: starEach es X.env := by rfl) (hpl : (backTo pos (starEach es X.env)).any (·.1) = false := by rfl) : DE X W (.Call (.Name x p) (e :: es) [] pos) (dCall sp [] pl) :=
  de_callD Fg hn hlen hr hG hg hm hk hb .nil (fun _ => rfl) tk ha hdb he hpl
end
end Px

set_option Elab.async false
set_option linter.all false
set_option maxRecDepth 100000
namespace Px
open PySem PySem.Spec PyProof.Rows L2

/-! ## statements -/
section
variable {X : Cx} {W : WX} {st1 : Stmt} {rest ss tt : List Stmt} {e c : Expr} {pe : PTE} {pl : PTA} {pt : PTT} {p p2 : PTS} {pos : Pos}
def dNext : PTS := fun _ P ρ M => P.nx ρ M
def dSeq (p q : PTS) : PTS := fun w P ρ M => p w { P with nx := q w P } ρ M
theorem dss_nil : DSs X W [] dNext := pss_imp pss_nil fun D σ H ⟨g, ρ, M, F, O, P, w, A, h, hw, k1, _⟩ => k1 σ H ρ M F O A (Same.refl F) h
theorem dss_one (h : DS X W st1 p) : DSs X W [st1] p := pss_one h
theorem dss_cons (h1 : DS X W st1 p) (h2 : DSs X W rest p2) : DSs X W (st1 :: rest) (dSeq p p2) := pss_imp (pss_cons h1 h2) fun D σ H ⟨g, ρ, M, F, O, P, w, A, h, hw, k1, k2, k3, k4, k5⟩ =>
  ⟨g, ρ, M, F, O, _, w, A, h, hw, fun σ' H' ρ' M' F' O' A' s q => ⟨g, ρ', M', F', O', P, w, A', q, hw.mono s,
      fun σ2 H2 ρ2 M2 F2 O2 A2 s2 q2 => k1 σ2 H2 ρ2 M2 F2 O2 A2 (s.trans s2) q2, fun v σ2 H2 ρ2 M2 F2 O2 d A2 s2 r2 q2 => k2 v σ2 H2 ρ2 M2 F2 O2 d A2 (s.trans s2) r2 q2,
      fun σ2 H2 ρ2 M2 F2 O2 A2 s2 q2 => k3 σ2 H2 ρ2 M2 F2 O2 A2 (s.trans s2) q2, fun σ2 H2 ρ2 M2 F2 O2 A2 s2 q2 => k4 σ2 H2 ρ2 M2 F2 O2 A2 (s.trans s2) q2, fun a xs σ2 H2 ρ2 M2 F2 O2 ds A2 s2 e1 e2 e3 e4 e5 q2 => k5 a xs σ2 H2 ρ2 M2 F2 O2 ds A2 (s.trans s2) e1 e2 e3 e4 e5 q2⟩, k2, k3, k4, k5⟩
theorem ds_pass : DS X W (.Pass pos) dNext := ps_imp ps_pass fun D σ H ⟨g, ρ, M, F, O, P, w, A, h, hw, k1, _⟩ => k1 σ H ρ M F O A (Same.refl F) h
def dRet (pe : PTE) : PTS := fun w P ρ M => pe w ρ M P.rt
theorem ds_ret (h : DE X W e pe) : DS X W (.Return (some e) pos) (dRet pe) := ps_imp (ps_ret h) fun D σ H ⟨g, ρ, M, F, O, P, w, A, h, hw, k1, k2, _⟩ =>
  ⟨g, ρ, M, F, O, _, w, A, h, hw, fun v H' F' O' M' d A' s r q => k2 v σ H' ρ M' F' O' d A' s r q⟩
def dRetN : PTS := fun _ P _ M => P.rt .non M
theorem ds_retN : DS X W (.Return none pos) dRetN := ps_imp ps_retN fun D σ H ⟨g, ρ, M, F, O, P, w, A, h, hw, k1, k2, _⟩ => k2 .non σ H ρ M F O .non A (Same.refl F) rfl h
def dDrop (pe : PTE) : PTS := fun w P ρ M => pe w ρ M fun _ M' => P.nx ρ M'
theorem ds_expr (h : DE X W e pe) (hs : swapsWith e none pos.line X.env = pure false := by rfl) : DS X W (.Expr e pos) (dDrop pe) := ps_imp (ps_expr h hs) fun D σ H ⟨g, ρ, M, F, O, P, w, A, h, hw, k1, k2, _⟩ =>
  ⟨g, ρ, M, F, O, _, w, A, h, hw, fun v H' F' O' M' d A' s r q => k1 σ H' ρ M' F' O' A' s q⟩
def dIfS (pt : PTT) (p q : PTS) : PTS := fun w P ρ M => pt w ρ M fun b M' => if b = true then p w P ρ M' else q w P ρ M'
theorem ds_if (hc : DT X W c pt) (ha : DSs X W ss p) (hb : DSs X W tt p2) : DS X W (.If c ss tt pos) (dIfS pt p p2) := ps_imp (ps_if hc ha hb) fun D σ H ⟨g, ρ, M, F, O, P, w, A, h, hw, k1, k2, k3, k4, k5⟩ =>
  ⟨g, ρ, M, F, O, _, w, A, h, hw, fun b H' F' O' M' A' s q => by
    cases b with
    | true => exact ⟨g, ρ, M', F', O', P, w, A', q, hw.mono s, fun σ2 H2 ρ2 M2 F2 O2 A2 s2 q2 => k1 σ2 H2 ρ2 M2 F2 O2 A2 (s.trans s2) q2, fun v σ2 H2 ρ2 M2 F2 O2 d A2 s2 r2 q2 => k2 v σ2 H2 ρ2 M2 F2 O2 d A2 (s.trans s2) r2 q2,
      fun σ2 H2 ρ2 M2 F2 O2 A2 s2 q2 => k3 σ2 H2 ρ2 M2 F2 O2 A2 (s.trans s2) q2, fun σ2 H2 ρ2 M2 F2 O2 A2 s2 q2 => k4 σ2 H2 ρ2 M2 F2 O2 A2 (s.trans s2) q2, fun a xs σ2 H2 ρ2 M2 F2 O2 ds A2 s2 e1 e2 e3 e4 e5 q2 => k5 a xs σ2 H2 ρ2 M2 F2 O2 ds A2 (s.trans s2) e1 e2 e3 e4 e5 q2⟩
    | false => exact ⟨g, ρ, M', F', O', P, w, A', q, hw.mono s, fun σ2 H2 ρ2 M2 F2 O2 A2 s2 q2 => k1 σ2 H2 ρ2 M2 F2 O2 A2 (s.trans s2) q2, fun v σ2 H2 ρ2 M2 F2 O2 d A2 s2 r2 q2 => k2 v σ2 H2 ρ2 M2 F2 O2 d A2 (s.trans s2) r2 q2,
      fun σ2 H2 ρ2 M2 F2 O2 A2 s2 q2 => k3 σ2 H2 ρ2 M2 F2 O2 A2 (s.trans s2) q2, fun σ2 H2 ρ2 M2 F2 O2 A2 s2 q2 => k4 σ2 H2 ρ2 M2 F2 O2 A2 (s.trans s2) q2, fun a xs σ2 H2 ρ2 M2 F2 O2 ds A2 s2 e1 e2 e3 e4 e5 q2 => k5 a xs σ2 H2 ρ2 M2 F2 O2 ds A2 (s.trans s2) e1 e2 e3 e4 e5 q2⟩⟩

/-! ### targets -/
abbrev PTG := D → Rho → (Rho → Prop) → Prop
abbrev PTGs := List D → Rho → (Rho → Prop) → Prop
def realG (K : PySem.W.Frag) (is : List Nat) (gd : PTG) : TG := fun v σ H Q => ∃ g ρ M F O d k, Ab K g σ H ρ M F O ∧ Rp K F d v ∧ gd d ρ k ∧
  ∀ σ' ρ', Ab K g σ' H ρ' M F O → (∀ j, j ∉ is → σ'[j]? = σ[j]? ∧ gt ρ' j = gt ρ j) → σ'.length = σ.length → k ρ' → Q σ' H
def realGs (K : PySem.W.Frag) (is : List Nat) (gd : PTGs) : TGs := fun vs σ H Q => ∃ g ρ M F O ds k, Ab K g σ H ρ M F O ∧ RpL K F ds vs ∧ gd ds ρ k ∧
  ∀ σ' ρ', Ab K g σ' H ρ' M F O → (∀ j, j ∉ is → σ'[j]? = σ[j]? ∧ gt ρ' j = gt ρ j) → σ'.length = σ.length → k ρ' → Q σ' H
abbrev DG (X : Cx) (tg : Expr) (is : List Nat) (gd : PTG) : Prop := PG X tg (realG X.K is gd)
abbrev DGs (X : Cx) (tgs : List Expr) (is : List Nat) (gd : PTGs) : Prop := PGs X tgs (realGs X.K is gd)
theorem pg_imp {tg : Expr} {t t' : TG} (h : PG X tg t) (i : ∀ v σ H Q, t' v σ H Q → t v σ H Q) : PG X tg t' := ⟨fun pins s σ H v u Q I r hw => h.run pins s σ H v u Q I r (i v σ H Q hw)⟩
theorem pgs_imp {tgs : List Expr} {t t' : TGs} (h : PGs X tgs t) (i : ∀ v σ H Q, t' v σ H Q → t v σ H Q) : PGs X tgs t' := ⟨fun pins s σ H v u Q I r hw => h.run pins s σ H v u Q I r (i v σ H Q hw)⟩
def gNm (i : Nat) : PTG := fun d ρ k => k (st ρ i (.val d))
theorem dg_nm (i : Nat) {x : Str} (hN : X.N.Nodup) (hi : X.N[i]? = some x := by rfl) (hx : Loc X.env.scope x := by first | exact Or.inl rfl | exact Or.inr rfl) (hf : X.fn x = true ∨ X.env.scope.names.lookup x = some .local := by first | exact .inl rfl | exact .inr rfl) :
    DG X (.Name x pos) [i] (gNm i) := pg_imp (pg_name hN hi hx hf) fun v σ H Q ⟨g, ρ, M, F, O, d, k, A, r, h, q⟩ =>
  q _ _ (A.put r) (fun j hj => ⟨List.getElem?_set_ne (by intro z; exact hj (by simp [z])), gt_st_ne (by intro z; exact hj (by simp [z]))⟩) (List.length_set ..) h
def gsNil : PTGs := fun ds ρ k => match ds with | [] => k ρ | _ => False
def gsCons (gd : PTG) (gs : PTGs) : PTGs := fun ds ρ k => match ds with | d :: r => gd d ρ fun ρ' => gs r ρ' k | _ => False
theorem dgs_nil : DGs X [] [] gsNil := pgs_imp pgs_nil fun vs σ H Q ⟨g, ρ, M, F, O, ds, k, A, r, h, q⟩ => by
  cases ds with
  | nil => exact ⟨r, q σ ρ A (fun _ _ => ⟨rfl, rfl⟩) rfl h⟩
  | cons d r => exact (show False from h).elim
theorem dgs_cons {tg : Expr} {tgs : List Expr} {i1 i2 : List Nat} {gd : PTG} {gs : PTGs} (h1 : DG X tg i1 gd) (h2 : DGs X tgs i2 gs) (hs : (assignEach (tg :: tgs) X.env).map (·.2) = assign tg X.env :: (assignEach tgs X.env).map (·.2) := by rfl) : DGs X (tg :: tgs) (i1 ++ i2) (gsCons gd gs) :=
  pgs_imp (pgs_cons h1 h2 hs) fun vs σ H Q ⟨g, ρ, M, F, O, ds, k, A, r, h, q⟩ => by
    cases ds with
    | nil => exact (show False from h).elim
    | cons d ds =>
      obtain ⟨x, xs, e, rd, rl⟩ := r
      exact ⟨x, xs, e, g, ρ, M, F, O, d, _, A, rd, h, fun σ' ρ' A' n1 l1 h' => ⟨g, ρ', M, F, O, ds, k, A', rl, h', fun σ2 ρ2 A2 n2 l2 h2 =>
        q σ2 ρ2 A2 (fun j hj => ⟨(n2 j fun z => hj (List.mem_append_right _ z)).1.trans (n1 j fun z => hj (List.mem_append_left _ z)).1, (n2 j fun z => hj (List.mem_append_right _ z)).2.trans (n1 j fun z => hj (List.mem_append_left _ z)).2⟩) (l2.trans l1) h2⟩⟩
def gTp (n : Nat) (gs : PTGs) : PTG := fun d ρ k => match d with | .tup l => l.length = n ∧ gs l ρ k | _ => False
theorem dg_tup {es : List Expr} {k : Nat} {n : Nat} {is : List Nat} {gs : PTGs} (hc : X.calm = true) (h : DGs X es is gs) (hn : (assignEach es X.env).length = n := by rfl) (hst : (assignEach es X.env).findIdx? (·.1) = none := by rfl) : DG X (.Tuple es k pos) is (gTp n gs) :=
  pg_imp (pg_tup hc h hn hst) fun v σ H Q ⟨g, ρ, M, F, O, d, k, A, r, h, q⟩ => by
    cases d with
    | tup l =>
      obtain ⟨a, xs, e, s, rl⟩ := r
      exact ⟨a, xs, e, same_t A.sub s, by rw [← rl.len]; exact h.1, g, ρ, M, F, O, l, k, A, rl, h.2, q⟩
    | _ => exact (show False from h).elim

/-! ### assignments -/
def dAsg (pe : PTE) (gd : PTG) : PTS := fun w P ρ M => pe w ρ M fun d M' => gd d ρ fun ρ' => P.nx ρ' M'
theorem ds_asg {tg : Expr} {is : List Nat} {gd : PTG} (he : DE X W e pe) (hg : DG X tg is gd) (hs : swapsWithSole [tg] e pos.line X.env = pure false := by rfl) (hw : swappedStores [tg] e X.env = pure none := by rfl)
    (h1 : (assignEach [tg] X.env).map (·.2) = [assign tg X.env] := by rfl) : DS X W (.Assign [tg] e pos) (dAsg pe gd) := ps_imp (ps_asg he hg hs hw h1) fun D σ H ⟨g, ρ, M, F, O, P, w, A, h, hw, k1, _⟩ =>
  ⟨g, ρ, M, F, O, _, w, A, h, hw, fun v H' F' O' M' d A' s r q => ⟨g, ρ, M', F', O', d, _, A', r, q, fun σ' ρ' A2 _ _ q2 => k1 σ' H' ρ' M' F' O' A2 s q2⟩⟩
def dSet (i : Nat) (pe : PTE) : PTS := fun w P ρ M => pe w ρ M fun d M' => P.nx (st ρ i (.val d)) M'
theorem ds_set (i : Nat) {x : Str} {pos' : Pos} (hN : X.N.Nodup) (he : DE X W e pe) (hi : X.N[i]? = some x := by rfl) (hx : Loc X.env.scope x := by first | exact Or.inl rfl | exact Or.inr rfl) (hs : swapsWith e (some (.Name x pos')) pos.line X.env = pure false := by rfl)
    (hf : X.fn x = true ∨ X.env.scope.names.lookup x = some .local := by first | exact .inl rfl | exact .inr rfl) : DS X W (.Assign [.Name x pos'] e pos) (dSet i pe) := ps_imp (ps_set hN hi hx he hs hf) fun D σ H ⟨g, ρ, M, F, O, P, w, A, h, hw, k1, _⟩ =>
  ⟨g, ρ, M, F, O, _, w, A, h, hw, fun v H' F' O' M' d A' s r q => k1 _ H' _ M' F' O' (A'.put r) s q⟩
/-- a name that is given a new list of its own -/
def dSetO (i : Nat) (pl : PTA) : PTS := fun w P ρ M => pl w ρ M fun ds M' => P.nx (st ρ i (.own ds)) M'
theorem ds_setO (i : Nat) {x : Str} {pos' : Pos} (hN : X.N.Nodup) (he : DL X W e pl) (hi : X.N[i]? = some x := by rfl) (hx : Loc X.env.scope x := by first | exact Or.inl rfl | exact Or.inr rfl) (hs : swapsWith e (some (.Name x pos')) pos.line X.env = pure false := by rfl)
    (hf : X.fn x = true ∨ X.env.scope.names.lookup x = some .local := by first | exact .inl rfl | exact .inr rfl) : DS X W (.Assign [.Name x pos'] e pos) (dSetO i pl) := ps_imp (ps_set hN hi hx he hs hf) fun D σ H ⟨g, ρ, M, F, O, P, w, A, h, hw, k1, _⟩ =>
  ⟨g, ρ, M, F, O, _, w, A, h, hw, fun a xs H' F' O' M' ds A' s hH r hF hO h0 q => k1 _ H' _ M' F' _ (A'.putOwn hH r hF hO h0) s q⟩
def ls2 (ds : List D) (k : D → D → Prop) : Prop := match ds with | [a, b] => k a b | _ => False
def ls3 (ds : List D) (k : D → D → D → Prop) : Prop := match ds with | [a, b, c] => k a b c | _ => False
theorem ls2_of {ds : List D} {k : D → D → Prop} (h : ls2 ds k) : ∃ a b, ds = [a, b] ∧ k a b := by
  unfold ls2 at h
  split at h
  · exact ⟨_, _, rfl, h⟩
  · exact h.elim
theorem ls3_of {ds : List D} {k : D → D → D → Prop} (h : ls3 ds k) : ∃ a b c, ds = [a, b, c] ∧ k a b c := by
  unfold ls3 at h
  split at h
  · exact ⟨_, _, _, rfl, h⟩
  · exact h.elim
/-- a, b = x, y -/
def dPar (i j : Nat) (pl : PTA) : PTS := fun w P ρ M => pl w ρ M fun ds M' => ls2 ds fun a b => P.nx (st (st ρ i (.val a)) j (.val b)) M'
theorem ds_par (i j : Nat) {x y : Str} {a b : Expr} {px py pt : Pos} {kt k2 pt2} (hc : X.calm = true) (hN : X.N.Nodup) (ha : DA X W [a, b] pl) (hi : X.N[i]? = some x := by rfl) (hj : X.N[j]? = some y := by rfl) (hij : i ≠ j := by decide)
    (hx : X.env.scope.names.lookup x = some .local := by rfl) (hy : X.env.scope.names.lookup y = some .local := by rfl)
    (hw : swappedStores [.Tuple [.Name x px, .Name y py] kt pt] (.Tuple [a, b] k2 pt2) X.env = pure (some [x, y]) := by rfl)
    (hs : swapsWithSole [.Tuple [.Name x px, .Name y py] kt pt] (.Tuple [a, b] k2 pt2) pos.line X.env = pure false := by rfl) : DS X W (.Assign [.Tuple [.Name x px, .Name y py] kt pt] (.Tuple [a, b] k2 pt2) pos) (dPar i j pl) :=
  ps_imp (ps_par hc hN hi hj hij hx hy ha hw hs) fun D σ H ⟨g, ρ, M, F, O, P, w, A, h, hw, k1, _⟩ =>
  ⟨g, ρ, M, F, O, _, w, A, h, hw, fun vs H' F' O' M' ds A' s r q => by
      obtain ⟨a, b, rfl, q⟩ := ls2_of q
      obtain ⟨v, x1, e1, ra, u, x2, e2, rb, e3⟩ := r
      have e3 : x2 = [] := e3
      subst e3 e2 e1
      exact ⟨v, u, rfl, k1 _ H' _ M' F' O' ((A'.put ra).put rb) s q⟩⟩
def dPar3 (i j l : Nat) (pl : PTA) : PTS := fun w P ρ M => pl w ρ M fun ds M' => ls3 ds fun a b c => P.nx (st (st (st ρ i (.val a)) j (.val b)) l (.val c)) M'
theorem ds_par3 (i j l : Nat) {x y z : Str} {a b c : Expr} {px py pz pt : Pos} {kt k2 pt2} (hc : X.calm = true) (hN : X.N.Nodup) (ha : DA X W [a, b, c] pl) (hi : X.N[i]? = some x := by rfl) (hj : X.N[j]? = some y := by rfl) (hl : X.N[l]? = some z := by rfl)
    (hij : i ≠ j := by decide) (hil : i ≠ l := by decide) (hjl : j ≠ l := by decide)
    (hx : X.env.scope.names.lookup x = some .local := by rfl) (hy : X.env.scope.names.lookup y = some .local := by rfl) (hz : X.env.scope.names.lookup z = some .local := by rfl)
    (hw : swappedStores [.Tuple [.Name x px, .Name y py, .Name z pz] kt pt] (.Tuple [a, b, c] k2 pt2) X.env = pure (some [x, y, z]) := by rfl)
    (hs : swapsWithSole [.Tuple [.Name x px, .Name y py, .Name z pz] kt pt] (.Tuple [a, b, c] k2 pt2) pos.line X.env = pure false := by rfl) :
    DS X W (.Assign [.Tuple [.Name x px, .Name y py, .Name z pz] kt pt] (.Tuple [a, b, c] k2 pt2) pos) (dPar3 i j l pl) :=
  ps_imp (ps_par3 hc hN hi hj hl hij hil hjl hx hy hz ha hw hs) fun D σ H ⟨g, ρ, M, F, O, P, w, A, h, hw, k1, _⟩ =>
  ⟨g, ρ, M, F, O, _, w, A, h, hw, fun vs H' F' O' M' ds A' s r q => by
      obtain ⟨a, b, c, rfl, q⟩ := ls3_of q
      obtain ⟨v, x1, e1, ra, u, x2, e2, rb, t, x3, e3, rc, e4⟩ := r
      have e4 : x3 = [] := e4
      subst e4 e3 e2 e1
      exact ⟨v, u, t, rfl, k1 _ H' _ M' F' O' (((A'.put ra).put rb).put rc) s q⟩⟩
/-- the list that a slot holds alone is data from here on -/
def dFrz (i : Nat) (p : PTS) : PTS := fun w P ρ M => match gt ρ i with | some (.own l) => p w P (st ρ i (.val (.lst l))) M | _ => p w P ρ M
theorem frz_run {K : PySem.W.Frag} {i : Nat} {D : Ends} {σ : L2.St} {H : Hp} (h : realS K W (dFrz i p) D σ H) : realS K W p D σ H := by
  obtain ⟨g, ρ, M, F, O, P, w, A, h, hw, k1, k2, k3, k4, k5⟩ := h
  unfold dFrz at h
  split at h
  · rename_i l e
    obtain ⟨F', O', A', s⟩ := A.frz e
    exact ⟨g, _, M, F', O', P, w, A', h, hw.mono s, fun σ2 H2 ρ2 M2 F2 O2 A2 s2 q2 => k1 σ2 H2 ρ2 M2 F2 O2 A2 (s.trans s2) q2, fun v σ2 H2 ρ2 M2 F2 O2 d A2 s2 r2 q2 => k2 v σ2 H2 ρ2 M2 F2 O2 d A2 (s.trans s2) r2 q2,
      fun σ2 H2 ρ2 M2 F2 O2 A2 s2 q2 => k3 σ2 H2 ρ2 M2 F2 O2 A2 (s.trans s2) q2, fun σ2 H2 ρ2 M2 F2 O2 A2 s2 q2 => k4 σ2 H2 ρ2 M2 F2 O2 A2 (s.trans s2) q2, fun a xs σ2 H2 ρ2 M2 F2 O2 ds A2 s2 e1 e2 e3 e4 e5 q2 => k5 a xs σ2 H2 ρ2 M2 F2 O2 ds A2 (s.trans s2) e1 e2 e3 e4 e5 q2⟩
  · exact ⟨g, ρ, M, F, O, P, w, A, h, hw, k1, k2, k3, k4, k5⟩
theorem ds_frz (i : Nat) (h : DS X W st1 p) : DS X W st1 (dFrz i p) := ps_imp h fun D σ H hh => frz_run hh
theorem dss_frz (i : Nat) (h : DSs X W ss p) : DSs X W ss (dFrz i p) := pss_imp h fun D σ H hh => frz_run hh

/-! ### while -/
def dWhile (pt : PTT) (pb : PTS) : PTS := fun w P ρ M => ∃ V : Nat → Rho → Mm → Prop, (∃ m, V m ρ M) ∧ ∀ m ρ M, V m ρ M → pt w ρ M fun b M' =>
  if b = true then pb w { P with nx := fun ρ2 M2 => ∃ m', m' < m ∧ V m' ρ2 M2, ct := fun ρ2 M2 => ∃ m', m' < m ∧ V m' ρ2 M2, bk := P.nx } ρ M' else P.nx ρ M'
theorem ds_while (hp : PassesOwn (model X.prog X.w) X.A X.env X.xe) (hc : DT X W c pt) (hb : DSs X W ss p) : DS X W (.While c ss [] pos) (dWhile pt p) := ps_imp (ps_while hp hc hb) fun D σ H ⟨g, ρ, M, F, O, P, w, A, ⟨V, ⟨m0, v0⟩, turn⟩, hw, k1, k2, k3, k4, k5⟩ => by
  refine ⟨fun m σ' H' => ∃ ρ' M' F' O', Ab X.K g σ' H' ρ' M' F' O' ∧ Same F F' ∧ V m ρ' M', ⟨m0, ρ, M, F, O, A, Same.refl F, v0⟩, ?_⟩
  rintro m σ1 H1 ⟨ρ1, M1, F1, O1, A1, s1, v1⟩
  refine ⟨g, ρ1, M1, F1, O1, _, w, A1, turn m ρ1 M1 v1, hw.mono s1, fun b H2 F2 O2 M2 A2 s2 q => ?_⟩
  cases b with
  | true =>
    rw [if_pos rfl] at q ⊢
    refine ⟨fun σ' H' => ∃ m', m' < m ∧ ∃ ρ' M' F' O', Ab X.K g σ' H' ρ' M' F' O' ∧ Same F F' ∧ V m' ρ' M', fun σ' H' h => h, ?_⟩
    refine ⟨g, ρ1, M2, F2, O2, _, w, A2, q, (hw.mono s1).mono s2, ?_, ?_, ?_, ?_, fun a xs σ3 H3 ρ3 M3 F3 O3 ds A3 s3 e1 e2 e3 e4 e5 q3 => k5 a xs σ3 H3 ρ3 M3 F3 O3 ds A3 ((s1.trans s2).trans s3) e1 e2 e3 e4 e5 q3⟩
    · intro σ3 H3 ρ3 M3 F3 O3 A3 s3 ⟨m', hm, v3⟩
      exact ⟨m', hm, ρ3, M3, F3, O3, A3, (s1.trans s2).trans s3, v3⟩
    · intro v σ3 H3 ρ3 M3 F3 O3 d A3 s3 r3 q3
      exact k2 v σ3 H3 ρ3 M3 F3 O3 d A3 ((s1.trans s2).trans s3) r3 q3
    · intro σ3 H3 ρ3 M3 F3 O3 A3 s3 q3
      exact k1 σ3 H3 ρ3 M3 F3 O3 A3 ((s1.trans s2).trans s3) q3
    · intro σ3 H3 ρ3 M3 F3 O3 A3 s3 ⟨m', hm, v3⟩
      exact ⟨m', hm, ρ3, M3, F3, O3, A3, (s1.trans s2).trans s3, v3⟩
  | false =>
    rw [if_neg Bool.false_ne_true] at q ⊢
    exact k1 σ1 H2 ρ1 M2 F2 O2 A2 (s1.trans s2) q
end

/-! ### what is walked -/
structure Wk (K : PySem.W.Frag) (J : It) (F : Hp) (ds : List D) : Prop where
  go : ∀ g σ ρ M F' O H i, Ab K g σ H ρ M F' O → Same F F' → i < ds.length → J.go i H
  yl : ∀ g σ ρ M F' O H i x H' d, Ab K g σ H ρ M F' O → Same F F' → J.yld i H x H' → ds[i]? = some d → ∃ F2, Ab K g σ H' ρ M F2 O ∧ Same F' F2 ∧ Rp K F2 d x
  sp : ∀ g σ ρ M F' O H, Ab K g σ H ρ M F' O → Same F F' → J.stop ds.length H
def realI (K : PySem.W.Frag) (W : WX) (p : PTA) : TI := fun σ H R => ∃ g ρ M F O q w, Ab K g σ H ρ M F O ∧ p w ρ M q ∧ WOk K g F W w ∧
  ∀ J H' F' O' M' ds, Ab K g σ H' ρ M' F' O' → Same F F' → Wk K J F' ds → q ds M' → R J H'
abbrev DI (X : Cx) (W : WX) (tg e : Expr) (p : PTA) : Prop := PI X tg e (realI X.K W p)
section
variable {X : Cx} {W : WX} {tg e a b : Expr} {pe pa pb : PTE} {pl : PTA} {pos p : Pos}
theorem pi_imp {t t' : TI} (h : PI X tg e t) (i : ∀ σ H R, t' σ H R → t σ H R) : PI X tg e t' := ⟨fun pins s σ H R I hw => h.run pins s σ H R I (i σ H R hw)⟩
theorem wk_list {K : PySem.W.Frag} {F : Hp} {a : Addr} {xs : List V} {ds : List D} (h : SqL K F a xs) (r : RpL K F ds xs) : Wk K (Itl K a) F ds where
  go := fun g σ ρ M F' O H i A s hi => ⟨xs, xs[i]'(by rw [← r.len]; exact hi), same_l (s.trans A.sub) h, List.getElem?_eq_getElem _⟩
  yl := fun g σ ρ M F' O H i x H' d A s ⟨e, hx⟩ hd => by
    obtain ⟨y, h1, h2⟩ := r.get hd
    have e2 := hx xs (same_l (s.trans A.sub) h)
    rw [h1] at e2
    cases e2
    exact ⟨F', by rw [e]; exact A, Same.refl F', Rp.mono s _ _ h2⟩
  sp := fun g σ ρ M F' O H A s => ⟨xs, same_l (s.trans A.sub) h, Nat.le_of_eq r.len.symm⟩
theorem wk_tup {K : PySem.W.Frag} {F : Hp} {a : Addr} {xs : List V} {ds : List D} (h : SqT K F a xs) (r : RpL K F ds xs) : Wk K (Itt K a) F ds where
  go := fun g σ ρ M F' O H i A s hi => ⟨xs, xs[i]'(by rw [← r.len]; exact hi), same_t (s.trans A.sub) h, List.getElem?_eq_getElem _⟩
  yl := fun g σ ρ M F' O H i x H' d A s ⟨e, hx⟩ hd => by
    obtain ⟨y, h1, h2⟩ := r.get hd
    have e2 := hx xs (same_t (s.trans A.sub) h)
    rw [h1] at e2
    cases e2
    exact ⟨F', by rw [e]; exact A, Same.refl F', Rp.mono s _ _ h2⟩
  sp := fun g σ ρ M F' O H A s => ⟨xs, same_t (s.trans A.sub) h, Nat.le_of_eq r.len.symm⟩
def rngD (lo : Int) (n : Nat) : List D := (List.range n).map fun (i : Nat) => .int (lo + (i : Int))
theorem wk_range {K : PySem.W.Frag} {F : Hp} {lo : Int} {n : Nat} : Wk K (Itr lo n) F (rngD lo n) where
  go := fun g σ ρ M F' O H i A s hi => by
    unfold rngD at hi
    rw [List.length_map, List.length_range] at hi
    exact hi
  yl := fun g σ ρ M F' O H i x H' d A s ⟨e, hx⟩ hd => by
    subst e
    unfold rngD at hd
    rw [List.getElem?_map] at hd
    cases q : (List.range n)[i]? with
    | none => rw [q] at hd; cases hd
    | some j =>
      rw [q] at hd
      cases hd
      have e2 : j = i := by
        obtain ⟨h1, h2⟩ := List.getElem?_eq_some_iff.mp q
        rw [List.getElem_range] at h2
        exact h2.symm
      subst e2
      exact ⟨F', A, Same.refl F', hx⟩
  sp := fun g σ ρ M F' O H A s => by
    unfold rngD
    rw [List.length_map, List.length_range]
    exact Nat.le_refl _
def iL (pe : PTE) : PTA := fun w ρ M q => pe w ρ M fun d M' => match d with | .lst l => q l M' | .scr ns => q (ns.map .int) M' | _ => False
def iT (pe : PTE) : PTA := fun w ρ M q => pe w ρ M fun d M' => match d with | .tup l => q l M' | _ => False
theorem di_list (h : DE X W e pe) : DI X W tg e (iL pe) := pi_imp (pi_list h) fun σ H R ⟨g, ρ, M, F, O, q, w, A, pr, hw, k⟩ =>
  ⟨g, ρ, M, F, O, _, w, A, pr, hw, fun v H' F' O' M' d A' s r q => by
    cases d with
    | lst l =>
      obtain ⟨a, xs, e, hs, rl⟩ := r
      exact ⟨a, e, ⟨xs, .inl (.inl (A'.sub _ _ hs))⟩, k _ H' F' O' M' l A' s (wk_list (.inl (.inl hs)) rl) q⟩
    | scr ns =>
      obtain ⟨a, e, hs⟩ := r
      exact ⟨a, e, ⟨_, same_l A'.sub hs⟩, k _ H' F' O' M' _ A' s (wk_list hs (RpL.of_ints ns)) q⟩
    | _ => exact (show False from q).elim⟩
theorem di_tup (h : DE X W e pe) : DI X W tg e (iT pe) := pi_imp (pi_tup h) fun σ H R ⟨g, ρ, M, F, O, q, w, A, pr, hw, k⟩ =>
  ⟨g, ρ, M, F, O, _, w, A, pr, hw, fun v H' F' O' M' d A' s r q => by
    cases d with
    | tup l =>
      obtain ⟨a, xs, e, hs, rl⟩ := r
      exact ⟨a, e, ⟨xs, same_t A'.sub hs⟩, k _ H' F' O' M' l A' s (wk_tup hs rl) q⟩
    | _ => exact (show False from q).elim⟩
def iR1 (pa : PTE) : PTA := fun w ρ M q => pa w ρ M fun d M' => match d with | .int n => -1000000 ≤ n ∧ n ≤ 1000000 ∧ q (rngD 0 n.toNat) M' | _ => False
def iR2 (pa pb : PTE) : PTA := fun w ρ M q => pa w ρ M fun x M1 => pb w ρ M1 fun y M2 => match x, y with | .int m, .int n => -1000000 ≤ m ∧ m ≤ 1000000 ∧ -1000000 ≤ n ∧ n ≤ 1000000 ∧ q (rngD m (n - m).toNat) M2 | _, _ => False
theorem di_r1 (hg : Gl X "range") (hm : X.mg "range" = none) (ha : DE X W a pa) (he : starEach [a] X.env = (false, eval a X.env) :: starEach [] X.env := by rfl) (hs : starEach [a] X.env = [(false, eval a X.env)] := by rfl) : DI X W tg (.Call (.Name "range" p) [a] [] pos) (iR1 pa) :=
  pi_imp (pi_range1 hg hm (pa_cons ha pa_nil he) hs) fun σ H R ⟨g, ρ, M, F, O, q, w, A, pr, hw, k⟩ =>
  ⟨g, ρ, M, F, O, _, w, A, pr, hw, fun v H' F' O' M' d A' s r q => by
    cases d with
    | int n => exact ⟨n, by rw [show v = .int n from r], by have := q.1; omega, by have := q.2.1; omega, k _ H' F' O' M' _ A' s wk_range q.2.2⟩
    | _ => exact (show False from q).elim⟩
theorem di_r2 (hg : Gl X "range") (hm : X.mg "range" = none) (ha : DE X W a pa) (hb : DE X W b pb) (he : starEach [a, b] X.env = (false, eval a X.env) :: starEach [b] X.env := by rfl) (he2 : starEach [b] X.env = (false, eval b X.env) :: starEach [] X.env := by rfl)
    (hs : starEach [a, b] X.env = [(false, eval a X.env), (false, eval b X.env)] := by rfl) (hs2 : starEach [b] X.env = [(false, eval b X.env)] := by rfl) : DI X W tg (.Call (.Name "range" p) [a, b] [] pos) (iR2 pa pb) :=
  pi_imp (pi_range2 hg hm (pa_cons ha (pa_cons hb pa_nil he2) he) hs hs2) fun σ H R ⟨g, ρ, M, F, O, q, w, A, pr, hw, k⟩ =>
  ⟨g, ρ, M, F, O, _, w, A, pr, hw, fun v H1 F1 O1 M1 d A1 s1 r1 q1 => ⟨g, ρ, M1, F1, O1, _, w, A1, q1, hw.mono s1, fun u H2 F2 O2 M2 e A2 s2 r2 q2 => by
    cases d with
    | int m =>
      cases e with
      | int n =>
        obtain ⟨z1, z2, z3, z4, q3⟩ := q2
        exact ⟨m, n, by rw [show v = .int m from r1, show u = .int n from r2], ⟨by omega, by omega, by omega, by omega⟩, k _ H2 F2 O2 M2 _ A2 (s1.trans s2) wk_range q3⟩
      | _ => exact (show False from q2).elim
    | _ => exact (show False from q2).elim⟩⟩
/-- pairs of a place and an item -/
def enumD : Nat → List D → List D
  | _, [] => []
  | n, d :: r => .tup [.int n, d] :: enumD (n + 1) r
theorem enumD_get : ∀ (l : List D) (n i : Nat), (enumD n l)[i]? = (l[i]?).map fun d => .tup [.int ((n + i : Nat) : Int), d]
  | [], n, i => by simp [enumD]
  | d :: r, n, 0 => by simp [enumD]
  | d :: r, n, i + 1 => by
    show (enumD (n + 1) r)[i]? = _
    rw [enumD_get r (n + 1) i]
    have e : n + 1 + i = n + (i + 1) := by omega
    rw [e]
    rfl
theorem enumD_len : ∀ (l : List D) (n : Nat), (enumD n l).length = l.length
  | [], _ => rfl
  | d :: r, n => by show (enumD (n + 1) r).length + 1 = _; rw [enumD_len r]; rfl
theorem wk_enum {K : PySem.W.Frag} {F : Hp} {a : Addr} {xs : List V} {ds : List D} (h : SqL K F a xs) (r : RpL K F ds xs) : Wk K (Ite K a) F (enumD 0 ds) where
  go := fun g σ ρ M F' O H i A s hi => by
    rw [enumD_len] at hi
    exact ⟨xs, xs[i]'(by rw [← r.len]; exact hi), same_l (s.trans A.sub) h, List.getElem?_eq_getElem _⟩
  yl := fun g σ ρ M F' O H i x H' d A s ⟨T, y, ex, hT, eH, hx⟩ hd => by
    rw [enumD_get] at hd
    cases q : ds[i]? with
    | none => rw [q] at hd; cases hd
    | some d0 =>
      rw [q] at hd
      cases hd
      obtain ⟨z, h1, h2⟩ := r.get q
      have e2 := hx xs (same_l (s.trans A.sub) h)
      rw [h1] at e2
      have e3 : z = y := Option.some.inj e2
      subst e3 eH ex
      have sn := same_new (o := .tup [.int (i : Nat), z]) (A.f0 hT)
      exact ⟨_, A.lay hT, sn, T, _, rfl, .inl (.inl upd_same), .int (i : Nat), _, rfl, by rw [Nat.zero_add]; rfl, z, _, rfl, Rp.mono (s.trans sn) _ _ h2, rfl⟩
  sp := fun g σ ρ M F' O H A s => ⟨xs, same_l (s.trans A.sub) h, by rw [enumD_len, r.len]; exact Nat.le_refl _⟩
def iE (pe : PTE) : PTA := fun w ρ M q => pe w ρ M fun d M' => match d with | .lst l => q (enumD 0 l) M' | _ => False
theorem di_enum {elts : List Expr} {kk : Nat} {tpos : Pos} (hg : Gl X "enumerate") (hm : X.mg "enumerate" = none) (ha : DE X W a pa) (he : starEach [a] X.env = (false, eval a X.env) :: starEach [] X.env := by rfl) (hs : starEach [a] X.env = [(false, eval a X.env)] := by rfl) :
    DI X W (.Tuple elts kk tpos) (.Call (.Name "enumerate" p) [a] [] pos) (iE pa) := pi_imp (pi_enum hg hm (pa_cons ha pa_nil he) hs) fun σ H R ⟨g, ρ, M, F, O, q, w, A, pr, hw, k⟩ =>
  ⟨g, ρ, M, F, O, _, w, A, pr, hw, fun v H' F' O' M' d A' s r q => by
    cases d with
    | lst l =>
      obtain ⟨a, xs, e, hs, rl⟩ := r
      exact ⟨a, xs, by rw [e], .inl (.inl (A'.sub _ _ hs)), k _ H' F' O' M' _ A' s (wk_enum (.inl (.inl hs)) rl) q⟩
    | _ => exact (show False from q).elim⟩
end

/-! ### for -/
def forR (gd : PTG) (pb : PTS) (w : PWi) : List D → PEnds → Rho → Mm → Prop
  | [], P, ρ, M => P.nx ρ M
  | x :: r, P, ρ, M => gd x ρ fun ρ' => pb w { P with nx := forR gd pb w r P, ct := forR gd pb w r P, bk := P.nx } ρ' M
def dFor (pl : PTA) (gd : PTG) (pb : PTS) : PTS := fun w P ρ M => pl w ρ M fun ds M' => forR gd pb w ds P ρ M'
section
variable {X : Cx} {W : WX} {tg e : Expr} {ss : List Stmt} {pl : PTA} {gd : PTG} {is : List Nat} {pb : PTS} {pos : Pos}
theorem forR_at {w : PWi} {ds : List D} {P : PEnds} {ρ : Rho} {M : Mm} {i : Nat} {d : D} (h : ds[i]? = some d) (q : forR gd pb w (ds.drop i) P ρ M) :
    gd d ρ fun ρ' => pb w { P with nx := forR gd pb w (ds.drop (i + 1)) P, ct := forR gd pb w (ds.drop (i + 1)) P, bk := P.nx } ρ' M := by
  obtain ⟨hi, e⟩ := List.getElem?_eq_some_iff.mp h
  rw [List.drop_eq_getElem_cons hi, e] at q
  exact q
theorem ds_for (hp : PassesOwn (model X.prog X.w) X.A X.env X.xe) (hc : X.calm = true) (hi : DI X W tg e pl) (hg : DG X tg is gd) (hb : DSs X W ss pb) (hs : ∀ x, foldedSetIterable e X.env x = pure x := by intro _; rfl) : DS X W (.For tg e ss [] pos) (dFor pl gd pb) :=
  ps_imp (ps_for hp hc hi hg hb hs) fun D σ H ⟨g, ρ, M, F, O, P, w, A, h, hw, k1, k2, k3, k4, k5⟩ =>
  ⟨g, ρ, M, F, O, _, w, A, h, hw, fun J H1 F1 O1 M1 ds A1 s1 wk q => by
    refine ⟨fun i m σ' H' => ∃ ρ' M' F' O', Ab X.K g σ' H' ρ' M' F' O' ∧ Same F1 F' ∧ i ≤ ds.length ∧ m = ds.length - i ∧ forR gd pb w (ds.drop i) P ρ' M',
      ⟨ds.length, ρ, M1, F1, O1, A1, Same.refl F1, Nat.zero_le _, rfl, q⟩, ?_⟩
    rintro i m σ2 H2 ⟨ρ2, M2, F2, O2, A2, s2, hi2, rfl, q2⟩
    by_cases hlt : i < ds.length
    · refine .inr ⟨wk.go _ _ _ _ _ _ _ i A2 s2 hlt, fun σ' H' => ∃ ρ' M' F' O', Ab X.K g σ' H' ρ' M' F' O' ∧ Same F1 F' ∧ forR gd pb w (ds.drop (i + 1)) P ρ' M', ?_, ?_⟩
      · rintro σ' H' ⟨ρ', M', F', O', A', s', q'⟩
        exact ⟨ds.length - (i + 1), by omega, ρ', M', F', O', A', s', hlt, rfl, q'⟩
      · intro x H3 y3
        have hd := List.getElem?_eq_getElem hlt
        obtain ⟨F3, A3, s3, r3⟩ := wk.yl _ _ _ _ _ _ _ i x H3 _ A2 s2 y3 hd
        have q3 := forR_at hd q2
        have w3 : WOk X.K g F3 W w := (hw.mono s1).mono (s2.trans s3)
        refine ⟨g, ρ2, M2, F3, O2, _, _, A3, r3, q3, fun σ4 ρ4 A4 _ _ q4 => ⟨g, ρ4, M2, F3, O2, _, w, A4, q4, w3, ?_, ?_, ?_, ?_, fun a xs σ5 H5 ρ5 M5 F5 O5 ds A5 s5 e1 e2 e3 e4 e5 q5 => k5 a xs σ5 H5 ρ5 M5 F5 O5 ds A5 (s1.trans ((s2.trans s3).trans s5)) e1 e2 e3 e4 e5 q5⟩⟩
        · intro σ5 H5 ρ5 M5 F5 O5 A5 s5 q5
          exact ⟨ρ5, M5, F5, O5, A5, (s2.trans s3).trans s5, q5⟩
        · intro v σ5 H5 ρ5 M5 F5 O5 d A5 s5 r5 q5
          exact k2 v σ5 H5 ρ5 M5 F5 O5 d A5 (s1.trans ((s2.trans s3).trans s5)) r5 q5
        · intro σ5 H5 ρ5 M5 F5 O5 A5 s5 q5
          exact k1 σ5 H5 ρ5 M5 F5 O5 A5 (s1.trans ((s2.trans s3).trans s5)) q5
        · intro σ5 H5 ρ5 M5 F5 O5 A5 s5 q5
          exact ⟨ρ5, M5, F5, O5, A5, (s2.trans s3).trans s5, q5⟩
    · have e : i = ds.length := by omega
      subst e
      rw [List.drop_length] at q2
      exact .inl ⟨wk.sp _ _ _ _ _ _ _ A2 s2, k1 σ2 H2 ρ2 M2 F2 O2 A2 (s1.trans s2) q2⟩⟩
end
end Px

set_option Elab.async false
set_option linter.all false
set_option maxRecDepth 100000
namespace Px
open PySem PySem.Spec PyProof.Rows L2

/-! ## comprehensions -/
def un : Rho → Nat → Rho
  | [], _ => []
  | _ :: r, 0 => none :: r
  | x :: r, n + 1 => x :: un r n
def uns (ρ : Rho) : List Nat → Rho
  | [] => ρ
  | v :: vs => un (uns ρ vs) v
theorem un_len : ∀ (ρ : Rho) (i : Nat), (un ρ i).length = ρ.length
  | [], _ => rfl
  | _ :: r, 0 => rfl
  | x :: r, n + 1 => by show (un r n).length + 1 = _; rw [un_len r n]; rfl
theorem uns_len (ρ : Rho) : ∀ vs : List Nat, (uns ρ vs).length = ρ.length
  | [] => rfl
  | v :: vs => by show (un (uns ρ vs) v).length = _; rw [un_len, uns_len ρ vs]
theorem gt_un_ne : ∀ {ρ : Rho} {i j : Nat}, j ≠ i → gt (un ρ i) j = gt ρ j
  | [], _, _, _ => rfl
  | _ :: r, 0, 0, h => absurd rfl h
  | _ :: r, 0, j + 1, _ => rfl
  | x :: r, n + 1, 0, _ => rfl
  | x :: r, n + 1, j + 1, h => gt_un_ne (ρ := r) fun e => h (by rw [e])
theorem gt_un_self : ∀ {ρ : Rho} {i : Nat}, gt (un ρ i) i = none
  | [], _ => rfl
  | _ :: r, 0 => rfl
  | x :: r, n + 1 => gt_un_self (ρ := r)
theorem gt_uns {ρ : Rho} {j : Nat} : ∀ {vs : List Nat}, (j ∉ vs → gt (uns ρ vs) j = gt ρ j) ∧ (j ∈ vs → gt (uns ρ vs) j = none)
  | [] => ⟨fun _ => rfl, fun h => nomatch h⟩
  | v :: vs => by
    obtain ⟨h1, h2⟩ := gt_uns (ρ := ρ) (j := j) (vs := vs)
    by_cases e : j = v
    · subst e
      exact ⟨fun h => absurd List.mem_cons_self h, fun _ => gt_un_self⟩
    · have q : gt (uns ρ (v :: vs)) j = gt (uns ρ vs) j := gt_un_ne e
      rw [q]
      exact ⟨fun h => h1 fun z => h (List.mem_cons_of_mem _ z), fun h => h2 ((List.mem_cons.mp h).resolve_left e)⟩
theorem wipe_at {σ : L2.St} {j : Nat} : ∀ {vs : List Nat}, (j ∉ vs → (wipe σ vs)[j]? = σ[j]?) ∧ (j ∈ vs → j < σ.length → (wipe σ vs)[j]? = some none)
  | [] => ⟨fun _ => rfl, fun h => nomatch h⟩
  | v :: vs => by
    obtain ⟨h1, h2⟩ := wipe_at (σ := σ) (j := j) (vs := vs)
    show (j ∉ v :: vs → ((wipe σ vs).set v none)[j]? = σ[j]?) ∧ (j ∈ v :: vs → j < σ.length → ((wipe σ vs).set v none)[j]? = some none)
    by_cases e : j = v
    · subst e
      exact ⟨fun h => absurd List.mem_cons_self h, fun _ hl => List.getElem?_set_self (by rw [wipe_length]; exact hl)⟩
    · rw [List.getElem?_set_ne (Ne.symm e)]
      exact ⟨fun h => h1 fun z => h (List.mem_cons_of_mem _ z), fun h => h2 ((List.mem_cons.mp h).resolve_left e)⟩
theorem wipe_eq {σ σ' : L2.St} {vs : List Nat} (hl : σ'.length = σ.length) (h : ∀ j, j ∉ vs → σ'[j]? = (wipe σ vs)[j]?) : wipe σ' vs = wipe σ vs := by
  refine List.ext_getElem? fun j => ?_
  by_cases hj : j ∈ vs
  · by_cases hlt : j < σ.length
    · rw [(wipe_at (vs := vs)).2 hj hlt, (wipe_at (vs := vs)).2 hj (by rw [hl]; exact hlt)]
    · rw [List.getElem?_eq_none (by rw [wipe_length]; omega), List.getElem?_eq_none (by rw [wipe_length]; omega)]
  · rw [(wipe_at (vs := vs)).1 hj]
    exact h j hj
def okW (ρ : Rho) (vs : List Nat) : Bool := vs.all fun v => match gt ρ v with | some (.own _) => false | _ => true
section
variable {K : PySem.W.Frag} {g g0 : Gh} {σ : L2.St} {H H0 : Hp} {ρ : Rho} {M M0 : Mm} {F F0 : Hp} {O O0 : Own} {D0 : Addr} {l l' : List D} {xs ys : List V}
theorem Ab.wiped (A : Ab K g σ H ρ M F O) (vs : List Nat) : Ab K g (wipe σ vs) H (uns ρ vs) M F O :=
  { toWd := A.toWd, len := by rw [uns_len, wipe_length]; exact A.len, sl := fun i sv e => by
      by_cases h : i ∈ vs
      · rw [gt_uns.2 h] at e; cases e
      · rw [gt_uns.1 h] at e
        obtain ⟨v, e1, r⟩ := A.sl i sv e
        exact ⟨v, by rw [wipe_at.1 h]; exact e1, r⟩ }
theorem Ab.unwiped {vs : List Nat} (A : Ab K g (wipe σ vs) H (uns ρ vs) M F O) (A0 : Ab K g0 σ H0 ρ M0 F0 O0) (s : Same F0 F) (h : okW ρ vs = true) : Ab K g σ H ρ M F O :=
  { toWd := A.toWd, len := A0.len, sl := fun i sv e => by
      by_cases hi : i ∈ vs
      · obtain ⟨v, e1, r⟩ := A0.sl i sv e
        refine ⟨v, e1, ?_⟩
        have z := List.all_eq_true.mp h i hi
        rw [e] at z
        cases sv with
        | val d => exact Rp.mono s d v r
        | own l => cases z
      · obtain ⟨v, e1, r⟩ := A.sl i sv (by rw [gt_uns.1 hi]; exact e)
        exact ⟨v, by rw [wipe_at.1 hi] at e1; exact e1, r⟩ }
theorem Ab.congr {ρ' : Rho} (A : Ab K g σ H ρ M F O) (hl : ρ'.length = ρ.length) (h : ∀ j, gt ρ' j = gt ρ j) : Ab K g σ H ρ' M F O :=
  { toWd := A.toWd, len := hl.trans A.len, sl := fun i sv e => A.sl i sv (by rw [← h]; exact e) }
/-- a list is being made at D0 -/
theorem Ab.tmpNew (A : Ab K g σ H ρ M F O) (h : H D0 = some (.lst xs)) (r : RpL K F l xs) (hF : F D0 = none) (hO : O D0 = none) (h0 : g.H0 D0 = none) :
    Ab K { g with tmp := (D0, l) :: g.tmp } σ H ρ M F (fun b => if b = D0 then some .tmp else O b) := by
  have keep : ∀ b u, O b = some u → (if b = D0 then some Ow.tmp else O b) = some u := fun b u e => by rw [if_neg (fun z => by rw [z, hO] at e; cases e)]; exact e
  exact { sub := A.sub, ext0 := A.ext0, new := A.new, frm := A.frm, thr := A.thr
          liv := fun b u e => by
            by_cases z : b = D0
            · subst z; exact ⟨⟨_, h⟩, hF, .inr h0⟩
            · rw [if_neg z] at e; exact A.liv b u e
          slo := fun b u e n => by
            by_cases z : b = D0
            · subst z; exact h0
            · rw [if_neg z] at e; exact A.slo b u e n
          tm := fun p l' e => by
            rcases List.mem_cons.mp e with z | z
            · cases z; exact ⟨xs, h, r, if_pos rfl⟩
            · obtain ⟨ys, e1, e2, e3⟩ := A.tm p l' z
              exact ⟨ys, e1, e2, keep p _ e3⟩
          mu := fun b mo e => (A.mu b mo e).mono (Same.refl F) fun q u e1 e2 => ⟨e1, keep q _ e2⟩
          len := A.len
          sl := fun j sv e => by
            obtain ⟨v, e1, r⟩ := A.sl j sv e
            exact ⟨v, e1, r.mono (Same.refl F) fun q xs e1 e2 => ⟨e1, keep q _ e2⟩⟩ }
/-- it grows -/
theorem Ab.grow (A : Ab K { g with tmp := (D0, l) :: g.tmp } σ H ρ M F O) (nd : ∀ q ∈ g.tmp, q.1 ≠ D0) (r : RpL K F l' ys) : Ab K { g with tmp := (D0, l') :: g.tmp } σ (upd H D0 (.lst ys)) ρ M F O := by
  obtain ⟨xs, h, _, hO⟩ := A.tm D0 l List.mem_cons_self
  have h0 : g.H0 D0 = none := A.slo D0 _ hO (fun _ z => by cases z)
  obtain ⟨_, hF, _⟩ := A.liv D0 _ hO
  have ne : ∀ b u, O b = some u → u ≠ .tmp → b ≠ D0 := fun b u e n z => by rw [z, hO] at e; exact n (Option.some.inj e).symm
  exact { sub := fun b u e => by rw [upd_ne (fun z => by rw [z, hF] at e; cases e)]; exact A.sub b u e
          ext0 := A.ext0, new := A.new
          frm := fun b u e n => by
            have e' : g.H0 b = some u := e
            rw [upd_ne (fun z => by rw [z, h0] at e'; cases e')]; exact A.frm b u e n
          thr := fun b u e => by
            have e' : g.H0 b = some u := e
            rw [upd_ne (fun z => by rw [z, h0] at e'; cases e')]; exact A.thr b u e
          liv := fun b u e => by
            obtain ⟨r1, r2⟩ := A.liv b u e
            refine ⟨?_, r2⟩
            by_cases z : b = D0
            · subst z; exact ⟨_, upd_same⟩
            · rw [upd_ne z]; exact r1
          slo := A.slo
          tm := fun p l2 e => by
            rcases List.mem_cons.mp e with z | z
            · cases z; exact ⟨ys, upd_same, r, hO⟩
            · obtain ⟨zs, e1, e2, e3⟩ := A.tm p l2 (List.mem_cons_of_mem _ z)
              exact ⟨zs, by rw [upd_ne (nd _ z)]; exact e1, e2, e3⟩
          mu := fun b mo e => (A.mu b mo e).mono (Same.refl F) fun q u e1 e2 => ⟨by rw [upd_ne (ne q _ e2 (fun z => by cases z))]; exact e1, e2⟩
          len := A.len
          sl := fun j sv e => by
            obtain ⟨v, e1, q⟩ := A.sl j sv e
            exact ⟨v, e1, q.mono (Same.refl F) fun q xs e1 e2 => ⟨by rw [upd_ne (ne q _ e2 (fun z => by cases z))]; exact e1, e2⟩⟩ }
/-- it is made -/
theorem Ab.made (A : Ab K { g with tmp := (D0, l) :: g.tmp } σ H ρ M F O) (nd : ∀ q ∈ g.tmp, q.1 ≠ D0) : ∃ xs O', Ab K g σ H ρ M F O' ∧ H D0 = some (.lst xs) ∧ RpL K F l xs ∧ F D0 = none ∧ O' D0 = none ∧ g.H0 D0 = none := by
  obtain ⟨xs, h, r, hO⟩ := A.tm D0 l List.mem_cons_self
  have h0 : g.H0 D0 = none := A.slo D0 _ hO (fun _ z => by cases z)
  obtain ⟨_, hF, _⟩ := A.liv D0 _ hO
  refine ⟨xs, fun b => if b = D0 then none else O b, ?_, h, r, hF, if_pos rfl, h0⟩
  have keep : ∀ b u, O b = some u → u ≠ .tmp → (if b = D0 then none else O b) = some u := fun b u e n => by rw [if_neg (fun z => by rw [z, hO] at e; exact n (Option.some.inj e).symm)]; exact e
  exact { sub := A.sub, ext0 := A.ext0, new := A.new, frm := A.frm, thr := A.thr
          liv := fun b u e => by
            by_cases z : b = D0
            · rw [if_pos z] at e; cases e
            · rw [if_neg z] at e; exact A.liv b u e
          slo := fun b u e n => by
            by_cases z : b = D0
            · rw [if_pos z] at e; cases e
            · rw [if_neg z] at e; exact A.slo b u e n
          tm := fun p l' e => by
            obtain ⟨ys, e1, e2, e3⟩ := A.tm p l' (List.mem_cons_of_mem _ e)
            exact ⟨ys, e1, e2, by rw [if_neg (nd _ e)]; exact e3⟩
          mu := fun b mo e => (A.mu b mo e).mono (Same.refl F) fun q u e1 e2 => ⟨e1, keep q _ e2 (fun z => by cases z)⟩
          len := A.len
          sl := fun j sv e => by
            obtain ⟨v, e1, r⟩ := A.sl j sv e
            exact ⟨v, e1, r.mono (Same.refl F) fun q xs e1 e2 => ⟨e1, keep q _ e2 (fun z => by cases z)⟩⟩ }
end

/-- no exception -/
abbrev W0 : WX := fun _ _ _ _ => False
abbrev w0 : PWi := fun _ _ _ _ => False
def dYes : PTT := fun _ _ M q => q true M
abbrev DTs (X : Cx) (W : WX) (ifs : List Expr) (p : PTT) : Prop := PTs X ifs (realT X.K W p)
/-- the items in turn -/
def compR (gd : PTG) (tt : PTT) (te : PTE) (ρ : Rho) : List D → List D → Mm → (List D → Mm → Prop) → Prop
  | [], acc, M, q => q acc M
  | x :: r, acc, M, q => gd x ρ fun ρ' => tt w0 ρ' M fun b M1 => if b = true then te w0 ρ' M1 fun y M2 => acc.length < 1000000 ∧ compR gd tt te ρ r (acc ++ [y]) M2 q else compR gd tt te ρ r acc M1 q
def dComp (vs : List Nat) (pl : PTA) (gd : PTG) (tt : PTT) (te : PTE) : PTA := fun w ρ M q => okW ρ vs = true ∧ pl w ρ M fun ds M1 => compR gd tt te (uns ρ vs) ds [] M1 q
section
variable {X : Cx} {W : WX} {elt tg iter : Expr} {ifs : List Expr} {scope : Scope} {own : List (Str × Nat)} {pos : Pos} {pl : PTA} {gd : PTG} {tt : PTT} {te : PTE} {is vs : List Nat}
theorem dts_nil : DTs X W [] dYes := by
  refine ⟨fun pins s σ H Q I ⟨g, ρ, M, F, O, q, w, A, h, hw, k⟩ => ?_⟩
  exact pts_nil.run pins s σ H Q I (k true H F O M A (Same.refl F) h)
theorem dts_one {c : Expr} (h : DT X W c tt) : DTs X W [c] tt := pts_one h
theorem compR_at {ρ : Rho} {ds acc : List D} {M : Mm} {q : List D → Mm → Prop} {i : Nat} {d : D} (h : ds[i]? = some d) (k : compR gd tt te ρ (ds.drop i) acc M q) :
    gd d ρ fun ρ' => tt w0 ρ' M fun b M1 => if b = true then te w0 ρ' M1 fun y M2 => acc.length < 1000000 ∧ compR gd tt te ρ (ds.drop (i + 1)) (acc ++ [y]) M2 q else compR gd tt te ρ (ds.drop (i + 1)) acc M1 q := by
  obtain ⟨hi, e⟩ := List.getElem?_eq_some_iff.mp h
  rw [List.drop_eq_getElem_cons hi, e] at k
  exact k
theorem line_lt {n : Nat} (h : n < 1000000) : n < sizeLine := Nat.lt_of_lt_of_le h (by decide)
theorem comp_run {K : PySem.W.Frag} (hsub : ∀ j ∈ is, j ∈ vs) {σ : L2.St} {H : Hp} {Q : VK} (h : realL K W (dComp vs pl gd tt te) σ H Q) : tLc (realI K W pl) (realG K is gd) (realT K W0 tt) (real K W0 te) vs σ H Q := by
  obtain ⟨g, ρ, M, F, O, q, w, A, ⟨hW, pr⟩, hw, k⟩ := h
  refine ⟨g, ρ, M, F, O, _, w, A, pr, hw, fun J H1 F1 O1 M1 ds A1 s1 wk q1 => fun D0 hD => ?_⟩
  have nd : ∀ p ∈ g.tmp, p.1 ≠ D0 := fun p hp z => by
    obtain ⟨xs, e1, _⟩ := A1.tm p.1 p.2 hp
    rw [z, hD] at e1; cases e1
  have A2 := ((A1.laid (o := .lst []) hD).tmpNew (l := []) upd_same rfl (A1.f0 hD) (A1.o0 hD) (A1.g0 hD)).wiped vs
  refine ⟨fun i m H' => ∃ M' F' O' acc, Ab K { g with tmp := (D0, acc) :: g.tmp } (wipe σ vs) H' (uns ρ vs) M' F' O' ∧ Same F1 F' ∧ i ≤ ds.length ∧ m = ds.length - i ∧ compR gd tt te (uns ρ vs) (ds.drop i) acc M' q,
    ⟨ds.length, M1, F1, _, [], A2, Same.refl F1, Nat.zero_le _, rfl, q1⟩, ?_⟩
  rintro i m H2 ⟨M2, F2, O2, acc, A3, s3, hi2, rfl, q2⟩
  by_cases hlt : i < ds.length
  · refine .inr ⟨wk.go _ _ _ _ _ _ _ i A3 s3 hlt, fun H' => ∃ M' F' O' acc, Ab K { g with tmp := (D0, acc) :: g.tmp } (wipe σ vs) H' (uns ρ vs) M' F' O' ∧ Same F1 F' ∧ compR gd tt te (uns ρ vs) (ds.drop (i + 1)) acc M' q, ?_, ?_⟩
    · rintro H' ⟨M', F', O', acc', A', s', q'⟩
      exact ⟨ds.length - (i + 1), by omega, M', F', O', acc', A', s', hlt, rfl, q'⟩
    · intro x H3 y3
      have hd := List.getElem?_eq_getElem hlt
      obtain ⟨F3, A4, s4, r4⟩ := wk.yl _ _ _ _ _ _ _ i x H3 _ A3 s3 y3 hd
      have q3 := compR_at hd q2
      refine ⟨_, uns ρ vs, M2, F3, O2, _, _, A4, r4, q3, fun σ5 ρ5 A5 n5 l5 q5 => ?_⟩
      have ew : wipe σ5 vs = wipe σ vs := wipe_eq (by rw [l5, wipe_length]) fun j hj => (n5 j fun z => hj (hsub j z)).1
      have hl5 : ρ5.length = ρ.length := by rw [A5.len, l5, wipe_length, ← A1.len]
      have back : ∀ {H' : Hp} {M' : Mm} {F' : Hp} {O' : Own} {acc' : List D}, Ab K { g with tmp := (D0, acc') :: g.tmp } σ5 H' ρ5 M' F' O' → Ab K { g with tmp := (D0, acc') :: g.tmp } (wipe σ vs) H' (uns ρ vs) M' F' O' := fun {H' M' F' O' acc'} Z => by
        have Z2 := Z.wiped vs
        rw [ew] at Z2
        refine Z2.congr (by rw [uns_len, uns_len, hl5]) fun j => ?_
        by_cases hj : j ∈ vs
        · rw [gt_uns.2 hj, gt_uns.2 hj]
        · rw [gt_uns.1 hj, gt_uns.1 hj]
          have z := (n5 j fun z => hj (hsub j z)).2
          rw [gt_uns.1 hj] at z
          exact z.symm
      refine ⟨ew, _, ρ5, M2, F3, O2, _, w0, A5, q5, fun _ _ _ _ _ _ _ _ _ _ _ _ z => z, fun b H6 F6 O6 M6 A6 s6 q6 => ?_⟩
      cases b with
      | false =>
        rw [if_neg Bool.false_ne_true] at q6 ⊢
        exact ⟨M6, F6, O6, acc, back A6, (s3.trans s4).trans s6, q6⟩
      | true =>
        rw [if_pos rfl] at q6 ⊢
        refine ⟨_, ρ5, M6, F6, O6, _, w0, A6, q6, fun _ _ _ _ _ _ _ _ _ _ _ _ z => z, fun v H7 F7 O7 M7 d A7 s7 r7 ⟨z7, q7⟩ => ?_⟩
        obtain ⟨xs, h1, h2, _⟩ := A7.tm D0 acc List.mem_cons_self
        exact ⟨xs, h1, by rw [← h2.len]; exact line_lt z7, M7, F7, O7, _, back (A7.grow nd (h2.app (show RpL K F7 [d] [v] from ⟨v, [], rfl, r7, rfl⟩))), ((s3.trans s4).trans s6).trans s7, q7⟩
  · have e : i = ds.length := by omega
    subst e
    rw [List.drop_length] at q2
    refine .inl ⟨wk.sp _ _ _ _ _ _ _ A3 s3, ?_⟩
    have A4 := A3.unwiped A1 s3 hW
    obtain ⟨xs, O4, A5, h1, h2, h3, h4, h5⟩ := A4.made nd
    exact k D0 xs H2 F2 O4 M2 acc A5 (s1.trans s3) h1 h2 h3 h4 h5 q2
theorem dl_comp (hc : X.calm = true) (hN : X.N.Nodup) (hi : DI X W tg iter pl) (ok : BlkOk X.N X.env.scope scope own)
    (hg : ∀ (s : Shared) (H : Hp) (C : Addr) (cl : List (Str × Addr)) (fp : List Addr), DG (X.blk s H scope (compEnvC scope cl C X.env) fp) tg is gd)
    (ht : ∀ (s : Shared) (H : Hp) (C : Addr) (cl : List (Str × Addr)) (fp : List Addr), DTs (X.blk s H scope (compEnvC scope cl C X.env) fp) W0 ifs tt)
    (he : ∀ (s : Shared) (H : Hp) (C : Addr) (cl : List (Str × Addr)) (fp : List Addr), DE (X.blk s H scope (compEnvC scope cl C X.env) fp) W0 elt te) (hsub : ∀ j ∈ is, j ∈ own.map (·.2) := by decide)
    (hs : ∀ x, foldedSetIterable iter X.env x = pure x := by intro _; rfl) : DL X W (.ListComp elt [⟨tg, iter, ifs, 0⟩] scope pos) (dComp (own.map (·.2)) pl gd tt te) :=
  pe_imp (pe_lc hc hN hi ok hg ht he hs) fun σ H Q h => comp_run hsub h
/-- name = [..] -/
theorem ds_setC (i : Nat) {y : Str} {py spos : Pos} (hc : X.calm = true) (hN : X.N.Nodup) (hsw : swapsWith (.ListComp elt [⟨tg, iter, ifs, 0⟩] scope pos) (some (.Name y py)) spos.line X.env = pure true) (hi : DI X W tg iter pl) (ok : BlkOk X.N X.env.scope scope own)
    (hg : ∀ (s : Shared) (H : Hp) (C : Addr) (cl : List (Str × Addr)) (fp : List Addr), DG (X.blk s H scope (compEnvC scope cl C X.env) fp) tg is gd)
    (ht : ∀ (s : Shared) (H : Hp) (C : Addr) (cl : List (Str × Addr)) (fp : List Addr), DTs (X.blk s H scope (compEnvC scope cl C X.env) fp) W0 ifs tt)
    (he : ∀ (s : Shared) (H : Hp) (C : Addr) (cl : List (Str × Addr)) (fp : List Addr), DE (X.blk s H scope (compEnvC scope cl C X.env) fp) W0 elt te) (hsub : ∀ j ∈ is, j ∈ own.map (·.2) := by decide)
    (hy : X.N[i]? = some y := by rfl) (hyl : X.env.scope.names.lookup y = some .local := by rfl) (hs : ∀ x, foldedSetIterable iter X.env x = pure x := by intro _; rfl) :
    DS X W (.Assign [.Name y py] (.ListComp elt [⟨tg, iter, ifs, 0⟩] scope pos) spos) (dSet i (dL (dComp (own.map (·.2)) pl gd tt te))) :=
  ps_imp (ps_setLc hc hN hy hyl hsw hi ok hg ht he hs) fun D σ H ⟨g, ρ, M, F, O, P, w, A, h, hw, k1, _⟩ => by
    refine comp_run (Q := fun x H1 => gName i x σ H1 D.nx) hsub ⟨g, ρ, M, F, O, _, w, A, h, hw, fun a xs H' F' O' M' ds A' s hH r hF hO h0 q => ?_⟩
    have s2 : Same F' (upd F' a (.lst xs)) := same_new hF
    exact k1 _ H' _ M' _ O' ((A'.freeze hH hF hO h0).put (d := .lst ds) ⟨a, xs, rfl, upd_same, RpL.mono s2 ds xs r⟩) (s.trans s2) q
theorem ds_setCO (i : Nat) {y : Str} {py spos : Pos} (hc : X.calm = true) (hN : X.N.Nodup) (hsw : swapsWith (.ListComp elt [⟨tg, iter, ifs, 0⟩] scope pos) (some (.Name y py)) spos.line X.env = pure true) (hi : DI X W tg iter pl) (ok : BlkOk X.N X.env.scope scope own)
    (hg : ∀ (s : Shared) (H : Hp) (C : Addr) (cl : List (Str × Addr)) (fp : List Addr), DG (X.blk s H scope (compEnvC scope cl C X.env) fp) tg is gd)
    (ht : ∀ (s : Shared) (H : Hp) (C : Addr) (cl : List (Str × Addr)) (fp : List Addr), DTs (X.blk s H scope (compEnvC scope cl C X.env) fp) W0 ifs tt)
    (he : ∀ (s : Shared) (H : Hp) (C : Addr) (cl : List (Str × Addr)) (fp : List Addr), DE (X.blk s H scope (compEnvC scope cl C X.env) fp) W0 elt te) (hsub : ∀ j ∈ is, j ∈ own.map (·.2) := by decide)
    (hy : X.N[i]? = some y := by rfl) (hyl : X.env.scope.names.lookup y = some .local := by rfl) (hs : ∀ x, foldedSetIterable iter X.env x = pure x := by intro _; rfl) :
    DS X W (.Assign [.Name y py] (.ListComp elt [⟨tg, iter, ifs, 0⟩] scope pos) spos) (dSetO i (dComp (own.map (·.2)) pl gd tt te)) :=
  ps_imp (ps_setLc hc hN hy hyl hsw hi ok hg ht he hs) fun D σ H ⟨g, ρ, M, F, O, P, w, A, h, hw, k1, _⟩ => by
    refine comp_run (Q := fun x H1 => gName i x σ H1 D.nx) hsub ⟨g, ρ, M, F, O, _, w, A, h, hw, fun a xs H' F' O' M' ds A' s hH r hF hO h0 q => ?_⟩
    exact k1 _ H' _ M' F' _ (A'.putOwn hH r hF hO h0) s q
end
end Px

set_option Elab.async false
set_option linter.all false
set_option maxRecDepth 100000
namespace Px
open PySem PySem.Spec PyProof.Rows L2

/-! ## raise X('..') -/
def dRaise (cls : Value) : PTS := fun w _ ρ M => w cls [] ρ M
section
variable {X : Cx} {W : WX}
/-- what the text says of an error class without an __init__ of its own -/
structure ExcTxt (K : PySem.W.Frag) (mg : Str → Option Value) (x : Str) (C : Addr) : Prop where
  g : mg x = some (.ref C)
  x : PySem.W.excIn K C [.type "ValueError", .type "Exception", .type "BaseException", .type "object"] "ValueError.__new__" = true
  k : PySem.W.keepIn K (.ref C) = true
  b : PySem.W.subIn K (.ref C) (.type "BaseException") = some true
  t : PySem.W.typeIn K (.ref C) = some (.type "type")
theorem ds_raise {x m : Str} {j : Nat} {p p2 pos pos2 : Pos} {C : Addr} (hc : X.calm = true) (tk : Takes X W) (T : ExcTxt X.K X.mg x C) (hg : Gl X x) (hdb : (x == ("__debug__" : Str)) = false := by decide) :
    DS X W (.Raise (some (.Call (.Name x p) [.Constant (.str m) j p2] [] pos)) none pos2) (dRaise (.ref C)) :=
  ps_imp (ps_raise hc tk (pmk_own PySem.F.excBase_ValueError T.x T.g T.k (raises_own T.b T.t) hg hdb)) fun D σ H ⟨g, ρ, M, F, O, P, w, A, h, hw, _⟩ =>
    hw (.ref C) none σ H ρ M F O [] A (Same.refl F) rfl h
end

/-! ## short words for promises -/
def ar1 (ds : List D) (f : D → Prop) : Prop := match ds with | [a] => f a | _ => False
def ar2 (ds : List D) (f : D → D → Prop) : Prop := match ds with | [a, b] => f a b | _ => False
def ar3 (ds : List D) (f : D → D → D → Prop) : Prop := match ds with | [a, b, c] => f a b c | _ => False
def ar4 (ds : List D) (f : D → D → D → D → Prop) : Prop := match ds with | [a, b, c, d] => f a b c d | _ => False
theorem ar1_of {ds : List D} {f : D → Prop} (h : ar1 ds f) : ∃ a, ds = [a] ∧ f a := by
  unfold ar1 at h
  split at h
  · exact ⟨_, rfl, h⟩
  · exact h.elim
theorem ar2_of {ds : List D} {f : D → D → Prop} (h : ar2 ds f) : ∃ a b, ds = [a, b] ∧ f a b := by
  unfold ar2 at h
  split at h
  · exact ⟨_, _, rfl, h⟩
  · exact h.elim
theorem ar3_of {ds : List D} {f : D → D → D → Prop} (h : ar3 ds f) : ∃ a b c, ds = [a, b, c] ∧ f a b c := by
  unfold ar3 at h
  split at h
  · exact ⟨_, _, _, rfl, h⟩
  · exact h.elim
theorem ar4_of {ds : List D} {f : D → D → D → D → Prop} (h : ar4 ds f) : ∃ a b c d, ds = [a, b, c, d] ∧ f a b c d := by
  unfold ar4 at h
  split at h
  · exact ⟨_, _, _, _, rfl, h⟩
  · exact h.elim
def asI (d : D) (f : Int → Prop) : Prop := match d with | .int i => f i | _ => False
theorem asI_of {d : D} {f : Int → Prop} (h : asI d f) : ∃ i, d = .int i ∧ f i := by
  unfold asI at h
  split at h
  · exact ⟨_, rfl, h⟩
  · exact h.elim
def asT (d : D) (f : List D → Prop) : Prop := match d with | .tup l => f l | _ => False
theorem asT_of {d : D} {f : List D → Prop} (h : asT d f) : ∃ l, d = .tup l ∧ f l := by
  unfold asT at h
  split at h
  · exact ⟨_, rfl, h⟩
  · exact h.elim
def asL (d : D) (f : List D → Prop) : Prop := match d with | .lst l => f l | _ => False
theorem asL_of {d : D} {f : List D → Prop} (h : asL d f) : ∃ l, d = .lst l ∧ f l := by
  unfold asL at h
  split at h
  · exact ⟨_, rfl, h⟩
  · exact h.elim

/-! ## a draw -/
def updM (M : Mm) (a : Addr) (mo : Mo) : Mm := fun b => if b = a then some mo else M b
/-- a draw, at the address that the argument names -/
def asDraw (d : D) (M : Mm) (f : Prop) : Prop := match d with | .raw (.ref a) => M a = some .draw ∧ f | _ => False
theorem asDraw_of {d : D} {M : Mm} {f : Prop} (h : asDraw d M f) : ∃ a, d = .raw (.ref a) ∧ M a = some .draw ∧ f := by
  unfold asDraw at h
  split at h
  · exact ⟨_, rfl, h.1, h.2⟩
  · exact h.elim
def sp_begin : PSp := fun ds M q _ => ar1 ds fun d => match d with | .scr ns => ns.length ≤ 63 ∧ ∀ a, M a = none → q (.raw (.ref a)) (updM M a .draw) | _ => False
def sp_take : PSp := fun ds M q _ => ar2 ds fun d n => asDraw d M (asI n fun n => (0 < n ∧ n.natAbs.log2 < 9000) ∧ ∀ k : Int, 0 ≤ k → k < n → q (.int k) M)

section
variable {K : PySem.W.Frag} {g : Gh} {σ : L2.St} {H H' : Hp} {ρ : Rho} {M : Mm} {F F' : Hp} {O : Own} {a l p : Addr} {o : HO}
/-- a nobody's object is changed -/
theorem Ab.poke (A : Ab K g σ H ρ M F O) (h : ∃ x, H p = some x) (hF : F p = none) (hO : O p = none) (h0 : g.H0 p = none) : Ab K g σ (upd H p o) ρ M F O := by
  have ne : ∀ b u, O b = some u → b ≠ p := fun b u e z => by rw [z, hO] at e; cases e
  exact { sub := fun b u e => by rw [upd_ne (fun z => by rw [z, hF] at e; cases e)]; exact A.sub b u e
          ext0 := A.ext0, new := A.new
          frm := fun b u e n => by rw [upd_ne (fun z => by rw [z, h0] at e; cases e)]; exact A.frm b u e n
          thr := fun b u e => by rw [upd_ne (fun z => by rw [z, h0] at e; cases e)]; exact A.thr b u e
          liv := fun b u e => by
            obtain ⟨r1, r2⟩ := A.liv b u e
            exact ⟨by rw [upd_ne (ne b u e)]; exact r1, r2⟩
          slo := A.slo
          tm := fun q l e => by
            obtain ⟨xs, e1, e2, e3⟩ := A.tm q l e
            exact ⟨xs, by rw [upd_ne (ne q _ e3)]; exact e1, e2, e3⟩
          mu := fun b mo e => (A.mu b mo e).mono (Same.refl F) fun q u e1 e2 => ⟨by rw [upd_ne (ne q _ e2)]; exact e1, e2⟩
          len := A.len
          sl := fun j sv e => by
            obtain ⟨v, e1, r⟩ := A.sl j sv e
            exact ⟨v, e1, r.mono (Same.refl F) fun q xs e1 e2 => ⟨by rw [upd_ne (ne q _ e2)]; exact e1, e2⟩⟩ }
/-- a draw is made of a new dict and of the list that slot i holds alone -/
theorem Ab.drawn {i : Nat} {big cells : List Int} {c : V} {rest turn mix : Int} (A : Ab K g σ H ρ M F O) (hi : gt ρ i = some (.own (big.map .int))) (hp : σ[i]? = some (some (.ref l))) (h : H p = some (.dK (drawKeys l c rest turn mix)))
    (hc : Rp K F (.lst (cells.map .int)) c) (hF : F p = none) (hO : O p = none) (h0 : g.H0 p = none) (hM : M p = none) (hb : big.length ≤ 63) (hl : cells.length ≤ 63) (m0 : 0 ≤ mix) (m1 : mix < 2147483629) :
    Ab K g σ H (un ρ i) (updM M p .draw) F (fun b => if b = p ∨ b = l then some (.obj p) else O b) := by
  obtain ⟨v, e1, p', xs, e2, e3, e4, e5⟩ := A.sl i _ hi
  rw [hp] at e1
  cases e1
  cases e2
  have ex := e4.ints
  subst ex
  obtain ⟨_, hFl, _⟩ := A.liv l _ e5
  have h0l : g.H0 l = none := A.slo l _ e5 (fun _ z => by cases z)
  have keep : ∀ b u, O b = some u → u ≠ .slot i → (if b = p ∨ b = l then some (Ow.obj p) else O b) = some u := fun b u e n => by
    rw [if_neg]
    · exact e
    · rintro (z | z)
      · rw [z, hO] at e; cases e
      · rw [z, e5] at e; exact n (Option.some.inj e).symm
  exact { sub := A.sub, ext0 := A.ext0, new := A.new, frm := A.frm, thr := A.thr
          liv := fun b u e => by
            by_cases z : b = p ∨ b = l
            · rcases z with z | z
              · subst z; exact ⟨⟨_, h⟩, hF, .inr h0⟩
              · subst z; exact ⟨⟨_, e3⟩, hFl, .inr h0l⟩
            · rw [if_neg z] at e; exact A.liv b u e
          slo := fun b u e n => by
            by_cases z : b = p ∨ b = l
            · rw [if_pos z] at e; exact absurd (Option.some.inj e).symm (n p)
            · rw [if_neg z] at e; exact A.slo b u e n
          tm := fun q l2 e => by
            obtain ⟨ys, e1, e2, e3⟩ := A.tm q l2 e
            exact ⟨ys, e1, e2, keep q _ e3 (fun z => by cases z)⟩
          mu := fun b mo e => by
            by_cases z : b = p
            · subst z
              have e' : mo = .draw := (Option.some.inj ((if_pos rfl).symm.trans (show (if b = b then some Mo.draw else M b) = some mo from e))).symm
              subst e'
              exact ⟨l, big, cells, c, rest, turn, mix, h, e3, hc, if_pos (.inl rfl), if_pos (.inr rfl), hb, hl, m0, m1⟩
            · have e' : M b = some mo := by
                have := e
                unfold updM at this
                rw [if_neg z] at this
                exact this
              exact (A.mu b mo e').mono (Same.refl F) fun q u e1 e2 => ⟨e1, keep q _ e2 (fun z => by cases z)⟩
          len := by rw [un_len]; exact A.len
          sl := fun j sv e => by
            by_cases z : j = i
            · subst z; rw [gt_un_self] at e; cases e
            · rw [gt_un_ne z] at e
              obtain ⟨v, e1, r⟩ := A.sl j sv e
              exact ⟨v, e1, r.mono (Same.refl F) fun q xs e1 e2 => ⟨e1, keep q _ e2 (fun y => z (by cases y; rfl))⟩⟩ }
/-- behind a take: the draw at a and its list have changed, all else is as it was -/
theorem draw_after {cells big' : List Int} {c : V} {rest' turn' mix' : Int} (A : Wd K g H M F O) (hM : M a = some .draw) (hOa : O a = some (.obj a)) (hOl : O l = some (.obj a)) (hc : Rp K F (.lst (cells.map .int)) c) (hl : cells.length ≤ 63)
    (k : ∀ b o, b ≠ a → b ≠ l → H b = some o → H' b = some o) (h1 : H' a = some (.dK (drawKeys l c rest' turn' mix'))) (h2 : H' l = some (.lst (big'.map V.int))) (hb : big'.length ≤ 63) (m0 : 0 ≤ mix') (m1 : mix' < 2147483629) :
    Aft K H F O H' M F (objs O) := by
  have nf : ∀ b o, F b = some o → b ≠ a ∧ b ≠ l := fun b o e =>
    ⟨fun z => by
      obtain ⟨_, hF, _⟩ := A.liv a _ hOa
      rw [z, hF] at e; exact (nomatch e), fun z => by
      obtain ⟨_, hF, _⟩ := A.liv l _ hOl
      rw [z, hF] at e; cases e⟩
  refine ⟨?_, fun b o e => let ⟨m, e1, _⟩ := objs_of e; ⟨m, e1⟩⟩
  have thr : ∀ b o, H b = some o → ∃ o', H' b = some o' := fun b o e => by
    by_cases z : b = a
    · subst z; exact ⟨_, h1⟩
    · by_cases y : b = l
      · subst y; exact ⟨_, h2⟩
      · exact ⟨o, k b o z y e⟩
  exact { sub := fun b o e => k b o (nf b o e).1 (nf b o e).2 (A.sub b o e), ext0 := Same.refl F, new := fun b o e => .inl e
          frm := fun b o e n => k b o (fun z => n (by rw [z]; exact ⟨a, hOa⟩)) (fun z => n (by rw [z]; exact ⟨a, hOl⟩)) e
          thr := thr
          liv := fun b o e => by
            obtain ⟨m, rfl, e1⟩ := objs_of e
            obtain ⟨⟨x, hx⟩, hF, _⟩ := A.liv b _ e1
            exact ⟨thr b x hx, hF, .inl ⟨m, e1⟩⟩
          slo := fun b o e n => by
            obtain ⟨m, rfl, e1⟩ := objs_of e
            exact absurd rfl (n m)
          tm := fun p l e => absurd e (by simp)
          mu := fun b mo e => by
            by_cases z : b = a
            · subst z
              rw [hM] at e
              cases e
              exact ⟨l, big', cells, c, rest', turn', mix', h1, h2, hc, objs_to hOa, objs_to hOl, hb, hl, m0, m1⟩
            · exact (A.mu b mo e).mono (Same.refl F) fun q u e1 e2 => ⟨k q u (fun y => by rw [y, hOa] at e2; cases e2; exact z rfl) (fun y => by rw [y, hOl] at e2; cases e2; exact z rfl) e1, objs_to e2⟩ }
end
end Px

set_option Elab.async false
set_option linter.all false
set_option maxRecDepth 100000
namespace Px
open PySem PySem.Spec PyProof.Rows L2

/-! ## the two defs that make and turn a draw -/
section
variable {X : Cx} {W : WX}
/-- return {"large": large, "cells": list(script), "rest": 0, "turn": 0, "mix": 7}: script in slot 0, large in slot 1 -/
def dRetDraw : PTS := fun _ P ρ M => ∃ (big ns : List Int), gt ρ 1 = some (.own (big.map .int)) ∧ gt ρ 0 = some (.val (.scr ns)) ∧ big.length ≤ 63 ∧ ns.length ≤ 63 ∧ ∀ a, M a = none → P.rt (.raw (.ref a)) (updM M a .draw)
theorem ds_retDraw {x0 x1 : Str} {p1 p2 p3 p4 p5 p6 p7 p8 p9 p10 p11 p12 pd pr : Pos} {k1 k2 k3 k4 k5 k6 k7 k8 : Nat} (h0 : X.N[0]? = some x0) (h1 : X.N[1]? = some x1) (v0 : Vis X.env.scope x0) (v1 : Vis X.env.scope x1)
    (d0 : (x0 == ("__debug__" : Str)) = false) (d1 : (x1 == ("__debug__" : Str)) = false) (c0 : (x0 == ("__classdict__" : Str)) = false) (c1 : (x1 == ("__classdict__" : Str)) = false) (hg : Gl X "list") (hm : X.mg "list" = none)
    (he : starEach [.Name x0 p3] X.env = (false, eval (.Name x0 p3) X.env) :: starEach [] X.env := by rfl) (hpl : (backTo p4 (starEach [] X.env)).any (·.1) = false := by rfl) :
    DS X W (.Return (some (.Dict [some (.Constant (.str "large") k1 p1), some (.Constant (.str "cells") k2 p5), some (.Constant (.str "rest") k3 p6), some (.Constant (.str "turn") k4 p7), some (.Constant (.str "mix") k5 p8)]
      [.Name x1 p2, .Call (.Name "list" p9) [.Name x0 p3] [] p4, .Constant (.int 0) k6 p10, .Constant (.int 0) k7 p11, .Constant (.int 7) k8 p12] pd)) pr) dRetDraw := by
  refine ps_imp (ps_ret (pe_disp (pps_cons pe_str (pv 1 h1 v1 d1 c1) (pps_cons pe_str (pe_callTy call_list_of hg hm (by decide +kernel) (pa_cons (pv 0 h0 v0 d0 c0) pa_nil he) (by decide) (by decide) he hpl)
    (pps_cons pe_str pe_int (pps_cons pe_str pe_int (pps_cons pe_str pe_int pps_nil))))) (by rfl) (by rfl) (by simp) (by simp))) fun D σ H ⟨g, ρ, M, F, O, P, w, A, h, hw, k1, k2, _⟩ => ?_
  obtain ⟨big, ns, e1, e0, hb, hn, hq⟩ := h
  obtain ⟨v, hv, l, xs, rfl, hl, rl, hO⟩ := A.sl 1 _ e1
  obtain ⟨u, hu, a, rfl, hs⟩ := A.sl 0 _ e0
  intro p hp
  have A1 := A.laid (o := .dK []) hp
  refine ⟨.ref l, hv, .ref a, hu, a, ns.map V.int, rfl, .inl (same_l A1.sub hs), fun c hc => ?_⟩
  have A2 := A1.lay (o := .lst (ns.map V.int)) hc
  have npc : p ≠ c := fun z => by rw [← z, upd_same] at hc; cases hc
  have h2p : (upd (upd H p (.dK [])) c (.lst (ns.map V.int))) p = some (.dK []) := by rw [upd_ne npc, upd_same]
  have f2p : (upd F c (.lst (ns.map V.int))) p = none := by rw [upd_ne npc]; exact A.f0 hp
  refine ⟨h2p, [(.inr "large", .ref l), (.inr "cells", .ref c), (.inr "rest", .int 0), (.inr "turn", .int 0), (.inr "mix", .int 7)], rfl, by simp, ?_⟩
  have em : mergeK [] [((.inr "large" : Key), V.ref l), (.inr "cells", .ref c), (.inr "rest", .int 0), (.inr "turn", .int 0), (.inr "mix", .int 7)] = drawKeys l (.ref c) 0 0 7 := by
    show _ = [((.inr "large" : Key), V.ref l), (.inr "cells", .ref c), (.inr "rest", .int 0), (.inr "turn", .int 0), (.inr "mix", .int 7)]
    unfold mergeK
    simp only [List.foldl]
    rfl
  rw [em]
  have A3 := A2.poke (o := .dK (drawKeys l (.ref c) 0 0 7)) ⟨_, h2p⟩ f2p (A.o0 hp) (A.g0 hp)
  have hM : M p = none := A.m0 hp
  have A4 := A3.drawn e1 hv upd_same (cells := ns) ⟨c, ns.map V.int, rfl, upd_same, RpL.of_ints ns⟩ f2p (A.o0 hp) (A.g0 hp) hM hb hn (by decide) (by decide)
  exact k2 (.ref p) σ _ _ _ _ _ (.raw (.ref p)) A4 (same_new (A.f0 (by
    by_cases z : c = p
    · exact absurd z.symm npc
    · rw [upd_ne z] at hc; exact hc))) rfl (hq p hM)
end

/-- the reading of a take -/
def rdTake (K : PySem.W.Frag) : TS :=
  tSeq (tIfS (tAnd (tTest (tOp rEq (tDGet (tVar 0) (tC (.str "rest"))) (tC (.int 0)))) (tTest (tOp (rNeD K) (tDGet (tVar 0) (tC (.str "large"))) (tLst tNil))))
      (sDPut (tVar 0) (tC (.str "rest")) (tBM K "list" rPopAt (tDGet (tVar 0) (tC (.str "large"))) (tCons (tC (.int 0)) tNil)))
      (tIfS (tTest (tOp rEq (tDGet (tVar 0) (tC (.str "rest"))) (tC (.int 0))))
        (tSeq (sDPut (tVar 0) (tC (.str "turn")) (tOp (rI0 fun i j => .int (i + j)) (tDGet (tVar 0) (tC (.str "turn"))) (tC (.int 1))))
        (tSeq (tFor (iList K (tOp rCat (tLst (tCons (tDGet (tVar 0) (tC (.str "turn"))) tNil)) (tDGet (tVar 0) (tC (.str "cells"))))) (gName 2)
            (sDPut (tVar 0) (tC (.str "mix")) (tOp (rI (fun _ j => 0 < j) fun i j => .int (i % j)) (tCB (fun xs H Q => (∃ i, xs = [.int i] ∧ Q (.int i) H) ∨ ∃ k, xs = [.bl k] ∧ Q (.int (if k then 1 else 0)) H)
              (tCons (tOp (rI0 fun i j => .int (i + j)) (tOp (rI0 fun i j => .int (i + j)) (tOp (rI CMul fun i j => .int (i * j)) (tDGet (tVar 0) (tC (.str "mix"))) (tC (.int 69621))) (tOp (rI CMul fun i j => .int (i * j)) (tVar 2) (tC (.int 48271)))) (tC (.int 12345))) tNil)) (tC (.int 2147483629)))))
          (sDPut (tVar 0) (tC (.str "rest")) (tOp (rI (fun _ j => 0 < j) fun i j => .int (i % j)) (tCB (fun xs H Q => (∃ i, xs = [.int i] ∧ Q (.int i) H) ∨ ∃ k, xs = [.bl k] ∧ Q (.int (if k then 1 else 0)) H)
              (tCons (tOp (rI CPow fun i j => .int (i ^ j.toNat)) (tDGet (tVar 0) (tC (.str "mix"))) (tC (.int 5))) tNil)) (tC (.int 2305843009213693951))))))
        tNext))
  (tSeq (tAsg (tCB (fun xs H Q => ∃ i j, xs = [.int i, .int j] ∧ CDivP i j ∧ ∀ p, H p = none → Q (.ref p) (upd H p (.tup [.int (i / j), .int (i % j)]))) (tCons (tDGet (tVar 0) (tC (.str "rest"))) (tCons (tVar 1) tNil)))
      (gTup K 2 (gCons (gSub (tVar 0) (tC (.str "rest")) rSetD) (gCons (gName 3) gNil))))
    (tRet (tVar 3)))
section
variable {H : Hp} {a l : Addr} {c : V} {r t m : Int}
theorem get_rest (h : H a = some (.dK (drawKeys l c r t m))) : DGet H a (.str "rest") (some (.int r)) := DGet.k (k := (Sum.inr "rest" : Key)) h
theorem get_turn (h : H a = some (.dK (drawKeys l c r t m))) : DGet H a (.str "turn") (some (.int t)) := DGet.k (k := (Sum.inr "turn" : Key)) h
theorem get_mix (h : H a = some (.dK (drawKeys l c r t m))) : DGet H a (.str "mix") (some (.int m)) := DGet.k (k := (Sum.inr "mix" : Key)) h
theorem get_large (h : H a = some (.dK (drawKeys l c r t m))) : DGet H a (.str "large") (some (.ref l)) := DGet.k (k := (Sum.inr "large" : Key)) h
theorem get_cells (h : H a = some (.dK (drawKeys l c r t m))) : DGet H a (.str "cells") (some c) := DGet.k (k := (Sum.inr "cells" : Key)) h
theorem keys_len : (drawKeys l c r t m).length < sizeLine := by
  show 5 < sizeLine
  decide
theorem put_rest (v : Int) (h : H a = some (.dK (drawKeys l c r t m))) : DPut H a (.str "rest") (.int v) (upd H a (.dK (drawKeys l c v t m))) := DPut.k (k := (Sum.inr "rest" : Key)) (v := .int v) h keys_len
theorem put_turn (v : Int) (h : H a = some (.dK (drawKeys l c r t m))) : DPut H a (.str "turn") (.int v) (upd H a (.dK (drawKeys l c r v m))) := DPut.k (k := (Sum.inr "turn" : Key)) (v := .int v) h keys_len
theorem put_mix (v : Int) (h : H a = some (.dK (drawKeys l c r t m))) : DPut H a (.str "mix") (.int v) (upd H a (.dK (drawKeys l c r t v))) := DPut.k (k := (Sum.inr "mix" : Key)) (v := .int v) h keys_len
end
theorem dp_ints {K : PySem.W.Frag} {H : Hp} : ∀ ns : List Int, DpAll K H (ns.map V.int) (ns.map PyData.int)
  | [] => .nil
  | n :: ns => .cons (.int n) (dp_ints ns)
theorem ints_shaped (ns : List Int) : SeqAt.shaped (.list (ns.map PyData.int)) = true := by
  have h1 : ∀ ns : List Int, PyData.canLayAll0 (ns.map PyData.int) = true ∧ PyData.depthAll (ns.map PyData.int) ≤ 0 := by
    intro ns
    induction ns with
    | nil => exact ⟨rfl, Nat.le_refl _⟩
    | cons n ns ih => exact ⟨by show (true && PyData.canLayAll0 (ns.map PyData.int)) = true; rw [ih.1]; rfl, by show max 0 (PyData.depthAll (ns.map PyData.int)) ≤ 0; omega⟩
  unfold SeqAt.shaped
  rw [Bool.and_eq_true_iff]
  exact ⟨(h1 ns).1, decide_eq_true (by show PyData.depthAll (ns.map PyData.int) + 1 ≤ 64; have := (h1 ns).2; omega)⟩
/-- the draw as it goes through a take -/
structure DrawSt (H H' : Hp) (a l : Addr) (c : V) (σ : L2.St) (n r t m : Int) (big : List Int) : Prop where
  s : ∃ y z, σ = [some (.ref a), some (.int n), y, z]
  k : ∀ b o, b ≠ a → b ≠ l → H b = some o → H' b = some o
  d : H' a = some (.dK (drawKeys l c r t m))
  b : H' l = some (.lst (big.map V.int))
section
variable {K : PySem.W.Frag} {H H' : Hp} {a l p : Addr} {c : V} {σ : L2.St} {n r t m r' t' m' : Int} {big big' : List Int} {o : HO}
theorem DrawSt.ne (S : DrawSt H H' a l c σ n r t m big) : a ≠ l := fun z => by
  have h1 := S.d
  rw [z, S.b] at h1
  cases h1
theorem DrawSt.new (S : DrawSt H H' a l c σ n r t m big) (hp : H' p = none) : DrawSt H (upd H' p o) a l c σ n r t m big where
  s := S.s
  k := fun b u h1 h2 e => by
    have z := S.k b u h1 h2 e
    rw [upd_ne (fun y => by rw [y, hp] at z; cases z)]
    exact z
  d := by rw [upd_ne (fun y => by have z := S.d; rw [y, hp] at z; cases z)]; exact S.d
  b := by rw [upd_ne (fun y => by have z := S.b; rw [y, hp] at z; cases z)]; exact S.b
theorem DrawSt.put (S : DrawSt H H' a l c σ n r t m big) : DrawSt H (upd H' a (.dK (drawKeys l c r' t' m'))) a l c σ n r' t' m' big where
  s := S.s
  k := fun b u h1 h2 e => by rw [upd_ne h1]; exact S.k b u h1 h2 e
  d := upd_same
  b := by rw [upd_ne S.ne.symm]; exact S.b
/-- the end of a take -/
theorem take_tail {D : Ends} (S : DrawSt H H' a l c σ n r t m big) (h0 : 0 < n) (h1 : n.natAbs.log2 < 9000) (hq : ∀ H2, DrawSt H H2 a l c [some (.ref a), some (.int n), none, none] n (r / n) t m big → D.rt (.int (r % n)) H2) :
    tSeq (tAsg (tCB (fun xs H Q => ∃ i j, xs = [.int i, .int j] ∧ CDivP i j ∧ ∀ p, H p = none → Q (.ref p) (upd H p (.tup [.int (i / j), .int (i % j)]))) (tCons (tDGet (tVar 0) (tC (.str "rest"))) (tCons (tVar 1) tNil)))
      (gTup K 2 (gCons (gSub (tVar 0) (tC (.str "rest")) rSetD) (gCons (gName 3) gNil)))) (tRet (tVar 3)) D σ H' := by
  obtain ⟨y, z, rfl⟩ := S.s
  refine ⟨.ref a, rfl, a, .int r, rfl, get_rest S.d, .int n, rfl, r, n, rfl, ⟨h0, PyProof.noPylong_of_log2 h1⟩, fun p hp => ?_⟩
  have S2 := S.new (o := .tup [.int (r / n), .int (r % n)]) hp
  refine ⟨p, _, rfl, .inl (.inl upd_same), rfl, .int (r / n), [.int (r % n)], rfl, .ref a, rfl, a, _, rfl, put_rest (r / n) S2.d, .int (r % n), [], rfl, rfl, .int (r % n), rfl, ?_⟩
  have S3 := S2.put (r' := r / n) (t' := t) (m' := m)
  exact hq _ ⟨⟨none, none, rfl⟩, S3.k, S3.d, S3.b⟩
end
end Px

set_option Elab.async false
set_option linter.all false
set_option maxRecDepth 100000
namespace Px
open PySem PySem.Spec PyProof.Rows L2
theorem itT {c : Bool} {A B : Prop} (hc : c = true) (h : A) : if c = true then A else B := by
  rw [if_pos hc]
  exact h
theorem itF {c : Bool} {A B : Prop} (hc : c = false) (h : B) : if c = true then A else B := by
  rw [hc, if_neg Bool.false_ne_true]
  exact h
theorem seq0 {n : Nat} (h : 0 < n) : seqIndex? (0 : Int) n = some 0 := PySem.StrLaws.seqIndex_nonneg (i := 0) (Int.le_refl 0) (by omega)
section
variable {K : PySem.W.Frag} {H H' : Hp} {a l : Addr} {c : V} {σ : L2.St} {n r t m : Int} {big : List Int}
/-- the turn of all cells, then the new rest -/
theorem take_mix {D : Ends} {ca : Addr} {cells : List Int} (S : DrawSt H H' a l (.ref ca) σ n r t m big) (hc : ∀ H2, DrawSt H H2 a l (.ref ca) σ n r (t + 1) m big → H2 ca = some (.lst (cells.map V.int))) (hca : ca ≠ a ∧ ca ≠ l) (hl : cells.length ≤ 63) (m0 : 0 ≤ m) (m1 : m < 2147483629)
    (hq : ∀ H2 σ2 r2 t2 m2, 0 ≤ m2 → m2 < 2147483629 → DrawSt H H2 a l (.ref ca) σ2 n r2 t2 m2 big → D.nx σ2 H2) :
    tSeq (sDPut (tVar 0) (tC (.str "turn")) (tOp (rI0 fun i j => .int (i + j)) (tDGet (tVar 0) (tC (.str "turn"))) (tC (.int 1))))
        (tSeq (tFor (iList K (tOp rCat (tLst (tCons (tDGet (tVar 0) (tC (.str "turn"))) tNil)) (tDGet (tVar 0) (tC (.str "cells"))))) (gName 2)
            (sDPut (tVar 0) (tC (.str "mix")) (tOp (rI (fun _ j => 0 < j) fun i j => .int (i % j)) (tCB (fun xs H Q => (∃ i, xs = [.int i] ∧ Q (.int i) H) ∨ ∃ k, xs = [.bl k] ∧ Q (.int (if k then 1 else 0)) H)
              (tCons (tOp (rI0 fun i j => .int (i + j)) (tOp (rI0 fun i j => .int (i + j)) (tOp (rI CMul fun i j => .int (i * j)) (tDGet (tVar 0) (tC (.str "mix"))) (tC (.int 69621))) (tOp (rI CMul fun i j => .int (i * j)) (tVar 2) (tC (.int 48271)))) (tC (.int 12345))) tNil)) (tC (.int 2147483629)))))
          (sDPut (tVar 0) (tC (.str "rest")) (tOp (rI (fun _ j => 0 < j) fun i j => .int (i % j)) (tCB (fun xs H Q => (∃ i, xs = [.int i] ∧ Q (.int i) H) ∨ ∃ k, xs = [.bl k] ∧ Q (.int (if k then 1 else 0)) H)
              (tCons (tOp (rI CPow fun i j => .int (i ^ j.toNat)) (tDGet (tVar 0) (tC (.str "mix"))) (tC (.int 5))) tNil)) (tC (.int 2305843009213693951))))) D σ H' := by
  obtain ⟨y, z, rfl⟩ := S.s
  refine ⟨.ref a, rfl, a, .int t, rfl, get_turn S.d, t, 1, rfl, rfl, .ref a, rfl, a, _, rfl, put_turn (t + 1) S.d, ?_⟩
  have S1 := S.put (r' := r) (t' := t + 1) (m' := m)
  refine ⟨.ref a, rfl, a, .int (t + 1), rfl, get_turn S1.d, by show 1 ≤ sizeLine; decide, fun p hp => ?_⟩
  have S2 := S1.new (o := .lst [.int (t + 1)]) hp
  have h2c := hc _ S2
  refine ⟨.ref a, rfl, a, .ref ca, rfl, get_cells S2.d, p, ca, _, _, rfl, rfl, upd_same, h2c, by rw [List.length_map]; exact line_big (by show 1 + cells.length ≤ 1000000; omega), fun q hq2 => ?_⟩
  have S3 := S2.new (o := .lst ([V.int (t + 1)] ++ cells.map V.int)) hq2
  refine ⟨q, rfl, ⟨_, .inl (.inl upd_same)⟩, for_list (xs := [V.int (t + 1)] ++ cells.map V.int) (fun i σ' H2 => ∃ m', 0 ≤ m' ∧ m' < 2147483629 ∧ DrawSt H H2 a l (.ref ca) σ' n r (t + 1) m' big ∧ H2 q = some (.lst ([V.int (t + 1)] ++ cells.map V.int)))
    ⟨m, m0, m1, S3, upd_same⟩ (fun i σ' H2 _ ⟨m', _, _, _, h⟩ => .inl (.inl h)) (fun i x σ' H2 hx ⟨m', h0, h1, S4, hq4⟩ => ?_) (fun σ' H2 ⟨m', h0, h1, S4, hq4⟩ => ?_)⟩
  · obtain ⟨k, rfl⟩ : ∃ k, x = V.int k := by
      rcases List.mem_append.mp (List.mem_of_getElem? hx) with z | z
      · exact ⟨_, List.mem_singleton.mp z⟩
      · obtain ⟨k, _, e⟩ := List.mem_map.mp z
        exact ⟨k, e.symm⟩
    obtain ⟨y', z', rfl⟩ := S4.s
    refine ⟨.ref a, rfl, a, .int m', rfl, get_mix S4.d, m', 69621, rfl, rfl, .inr ⟨by decide, by decide⟩, .int k, rfl, k, 48271, rfl, rfl, .inr ⟨by decide, by decide⟩, m' * 69621, k * 48271, rfl, rfl, m' * 69621 + k * 48271, 12345, rfl, rfl,
      .inl ⟨m' * 69621 + k * 48271 + 12345, rfl, m' * 69621 + k * 48271 + 12345, 2147483629, rfl, rfl, (show (0 : Int) < 2147483629 by decide), .ref a, rfl, a, _, rfl, put_mix ((m' * 69621 + k * 48271 + 12345) % 2147483629) S4.d, ?_⟩⟩
    refine ⟨(m' * 69621 + k * 48271 + 12345) % 2147483629, Int.emod_nonneg _ (by decide), Int.emod_lt_of_pos _ (by decide), ?_, ?_⟩
    · have S5 := S4.put (r' := r) (t' := t + 1) (m' := (m' * 69621 + k * 48271 + 12345) % 2147483629)
      exact ⟨⟨some (.int k), z', rfl⟩, S5.k, S5.d, S5.b⟩
    · rw [upd_ne (fun z => by have := S4.d; rw [← z, hq4] at this; cases this)]
      exact hq4
  · obtain ⟨y', z', rfl⟩ := S4.s
    refine ⟨.ref a, rfl, a, .int m', rfl, get_mix S4.d, m', 5, rfl, rfl, ⟨by decide, by decide, ?_⟩, .inl ⟨m' ^ (5 : Int).toNat, rfl, m' ^ (5 : Int).toNat, 2305843009213693951, rfl, rfl, (show (0 : Int) < 2305843009213693951 by decide), .ref a, rfl, a, _, rfl, put_rest ((m' ^ (5 : Int).toNat) % 2305843009213693951) S4.d, ?_⟩⟩
    · have e : (2 : Nat) ^ 64 = 18446744073709551616 := by decide
      rw [e]; omega
    · exact hq _ _ _ _ m' h0 h1 S4.put
end
theorem draw_is {K : PySem.W.Frag} {F H : Hp} {O : Own} {a : Addr} (h : MoOk K F H O a .draw) : ∃ (l : Addr) (big cells : List Int) (c : V) (rest turn mix : Int), H a = some (.dK (drawKeys l c rest turn mix)) ∧ H l = some (.lst (big.map V.int)) ∧ Rp K F (.lst (cells.map .int)) c ∧
      O a = some (.obj a) ∧ O l = some (.obj a) ∧ big.length ≤ 63 ∧ cells.length ≤ 63 ∧ 0 ≤ mix ∧ mix < 2147483629 := h
theorem take_run {K : PySem.W.Frag} {vs : List V} {H : Hp} {Q : VK} {E : XK} {N : List Str} (hN : N.length = 4) (h : toSp K 2 sp_take vs H Q E) : rdTake K { nx := fun _ H' => Q .non H', rt := Q } (L2.start N vs) H := by
  obtain ⟨g, F, M, O, ds, q, e, _, A, rp, hsp, hQ, _⟩ := h
  obtain ⟨d, n', rfl, h⟩ := ar2_of hsp
  obtain ⟨a, rfl, hM, h⟩ := asDraw_of h
  obtain ⟨n, rfl, ⟨hn0, hn1⟩, hk⟩ := asI_of h
  obtain ⟨v1, r1, rfl, hv1, v2, r2, rfl, hv2, hr2⟩ := rp
  have hr2 : r2 = [] := hr2
  have hv1 : v1 = .ref a := hv1
  have hv2 : v2 = .int n := hv2
  subst hr2 hv1 hv2
  obtain ⟨l, big, cells, c, rest, turn, mix, h1, h2, hc, o1, o2, hb, hl, m0, m1⟩ := draw_is (A.mu a _ hM)
  obtain ⟨ca, cxs, rfl, hF, rc⟩ := id hc
  have ex := rc.ints
  subst ex
  have nf : ∀ b o, F b = some o → b ≠ a ∧ b ≠ l := fun b o e => by
    constructor
    · intro z
      obtain ⟨_, hF, _⟩ := A.liv a _ o1
      rw [z, hF] at e
      cases e
    · intro z
      obtain ⟨_, hF, _⟩ := A.liv l _ o2
      rw [z, hF] at e
      cases e
  have es : L2.start N [V.ref a, V.int n] = [some (.ref a), some (.int n), none, none] := by
    unfold L2.start
    rw [hN]; rfl
  rw [es]
  have S : DrawSt H H a l (.ref ca) [some (.ref a), some (.int n), none, none] n rest turn mix big := ⟨⟨none, none, rfl⟩, fun _ _ _ _ e => e, h1, h2⟩
  -- what is left behind
  have fin : ∀ {H2 : Hp} {σ2 : L2.St} {big2 : List Int} {r2 t2 m2 : Int}, big2.length ≤ 63 → 0 ≤ m2 → m2 < 2147483629 → DrawSt H H2 a l (.ref ca) σ2 n r2 t2 m2 big2 →
      tSeq (tAsg (tCB (fun xs H Q => ∃ i j, xs = [.int i, .int j] ∧ CDivP i j ∧ ∀ p, H p = none → Q (.ref p) (upd H p (.tup [.int (i / j), .int (i % j)]))) (tCons (tDGet (tVar 0) (tC (.str "rest"))) (tCons (tVar 1) tNil)))
        (gTup K 2 (gCons (gSub (tVar 0) (tC (.str "rest")) rSetD) (gCons (gName 3) gNil)))) (tRet (tVar 3)) { nx := fun _ H' => Q .non H', rt := Q } σ2 H2 := fun {H2 σ2 big2 r2 t2 m2} hb2 q0 q1 S2 =>
    take_tail S2 hn0 hn1 fun H3 S3 => hQ (.int (r2 % n)) H3 F (objs O) M (.int (r2 % n)) (draw_after A hM o1 o2 hc hl S3.k S3.d S3.b hb2 q0 q1) rfl (hk (r2 % n) (Int.emod_nonneg _ (by omega)) (Int.emod_lt_of_pos _ hn0))
  have mixed : ∀ {H2 : Hp} {σ2 : L2.St}, DrawSt H H2 a l (.ref ca) σ2 n rest turn mix big → _ := fun {H2 σ2} S2 =>
    take_mix (K := K) (D := { nx := tSeq (tAsg (tCB (fun xs H Q => ∃ i j, xs = [.int i, .int j] ∧ CDivP i j ∧ ∀ p, H p = none → Q (.ref p) (upd H p (.tup [.int (i / j), .int (i % j)]))) (tCons (tDGet (tVar 0) (tC (.str "rest"))) (tCons (tVar 1) tNil)))
        (gTup K 2 (gCons (gSub (tVar 0) (tC (.str "rest")) rSetD) (gCons (gName 3) gNil)))) (tRet (tVar 3)) { nx := fun _ H' => Q .non H', rt := Q }, rt := Q }) S2
      (fun H3 S3 => S3.k _ _ (nf _ _ hF).1 (nf _ _ hF).2 (A.sub _ _ hF)) (nf _ _ hF) hl m0 m1 fun H3 σ3 r3 t3 m3 q0 q1 S3 => fin hb q0 q1 S3
  refine ⟨.ref a, rfl, a, .int rest, rfl, get_rest h1, rfl, _, rfl, ?_⟩
  by_cases hr : rest = 0
  · refine itT (decide_eq_true (by rw [hr])) ?_
    refine ⟨.ref a, rfl, a, .ref l, rfl, get_large h1, Nat.zero_le _, fun p hp => ?_⟩
    have S2 := S.new (o := .lst []) hp
    refine ⟨.list (big.map PyData.int), .list [], .lst (.inl (.inl S2.b)) (dp_ints big), .lst (.inl (.inl upd_same)) .nil, ints_shaped big, ints_shaped [], _, rfl, ?_⟩
    cases big with
    | nil =>
      refine iteF ?_
      exact ⟨.ref a, rfl, a, .int rest, rfl, get_rest S2.d, rfl, _, rfl, itT (decide_eq_true (by rw [hr])) (mixed S2)⟩
    | cons b0 br =>
      refine iteT ?_
      refine ⟨.ref a, rfl, a, .ref l, rfl, get_large S2.d, .inl ⟨rfl, _, .inl (.inl S2.b)⟩, l, _, 0, 0, .int b0, rfl, rfl, S2.b, by decide, by decide, seq0 (by simp), rfl, .ref a, rfl, a,
        upd (upd (upd H p (.lst [])) l (.lst (br.map V.int))) a (.dK (drawKeys l (.ref ca) b0 turn mix)), rfl, ?_, ?_⟩
      · exact put_rest b0 (by
          show (upd (upd H p (.lst [])) l (.lst (br.map V.int))) a = _
          rw [upd_ne S2.ne]; exact S2.d)
      · refine fin (big2 := br) (by have := hb; rw [List.length_cons] at this; omega) m0 m1 (r2 := b0) (t2 := turn) (m2 := mix) ⟨⟨none, none, rfl⟩, fun b o z1 z2 e => ?_, upd_same, ?_⟩
        · rw [upd_ne z1, upd_ne z2]; exact S2.k b o z1 z2 e
        · rw [upd_ne S2.ne.symm, upd_same]
  · refine itF (decide_eq_false fun z => hr (V.int.inj z)) ?_
    refine iteF ?_
    refine ⟨.ref a, rfl, a, .int rest, rfl, get_rest h1, rfl, _, rfl, ?_⟩
    exact itF (decide_eq_false fun z => hr (V.int.inj z)) (fin hb m0 m1 S)
end Px

set_option Elab.async false
set_option linter.all false
set_option maxRecDepth 100000
namespace Px
open PySem PySem.Spec PyProof.Rows L2

/-! ## the law's own call -/
/-- what the law's def promises -/
def sp_law : PSp := fun ds M q _ => ar1 ds fun d => match d with | .scr ns => ns.length ≤ 63 ∧ q (.bl true) M | _ => False
/-- the script alone is tracked; or (it is an object of the text) nothing -/
def trackS (a : Addr) (o : Obj) (xs : List V) : Hp := fun b => if b = a then some (.frz o (.lst xs)) else none
theorem trackS_at {a : Addr} {o : Obj} {xs : List V} : trackS a o xs a = some (.frz o (.lst xs)) := if_pos rfl
theorem trackS_ne {a b : Addr} {o : Obj} {xs : List V} (h : b ≠ a) : trackS a o xs b = none := if_neg h
section
variable {P : Program} {w : World} {K : PySem.W.Frag} {mg mb : Str → Option Value} {k : Nat} {fa a : Addr} {fd : FuncData} {x : Str} {s₁ : Shared} {vs : List Value} {ns : List Int}
abbrev GoodEnd (s₁ : Shared) : Result → Shared → Prop := fun r s' => r = .ok (.ret (.bool true)) ∧ OldK s₁.heap s'.heap ∧ s'.os = s₁.os ∧ AllBare s'.gens
theorem law_from (H : Hp) (KX : K.In s₁.heap) (hns : s₁.heap.Ns mainGlobals mg) (hb : s₁.heap.Ns builtinsNs mb) (hbb : ∀ x : Str, x ≠ "__name__" → mb x = bootBuiltins x) (hlim : s₁.heap.NoLimit) (hg : s₁.gens = #[])
    (ha : s₁.heap.get? a = some { cls := .type "list", data := .seq vs.toArray }) (hl : ns.length ≤ 63) (hr : Room k callerA) (G : ∀ base : Heap, K.In base → base.Ns mainGlobals mg → FnG P w K mg base k fa fd [x] (toSp K 1 sp_law))
    (hbind : ∀ (s : Shared) (u : Value), BindsTo s fd ⟨[u], []⟩ [(x, u)]) (hO : ∀ b, H b = none ∨ ∃ o xs, H b = some (.frz o (.lst xs))) (hS : SqL K H a (ns.map V.int)) (hok : HOk P w H s₁.heap) (hA : ∀ b, H b ≠ none → b = a) (hK : H a ≠ none → K.lookup a = none) :
    codeAny (model P w) callerA (.call (.ref fa) ⟨[.ref a], []⟩) (GoodEnd s₁) s₁ := by
  have free_dict : ∀ {b : Addr} {u : Obj} {es : Array DictEntry} {ep : Nat}, s₁.heap.get? b = some u → u.data = .dict es ep → H b = none := by
    intro b u es ep e d
    by_cases z : H b = none
    · exact z
    · have y := hA b z
      rw [y, ha] at e
      cases e
      exact absurd (show Data.seq vs.toArray _ = Data.dict es ep from d) (fun z => by cases z)
  have ns_of : ∀ {b : Addr} {m : Str → Option Value}, s₁.heap.Ns b m → (hidT s₁.heap H).Ns b m := by
    rintro b m ⟨u, es, ep, e, d, r⟩
    exact ⟨u, es, ep, hidT_get e (free_dict e d), d, r⟩
  have kb : K.In (hidT s₁.heap H) := by
    intro b u e
    refine hidT_get (KX b u e) ?_
    by_cases z : H b = none
    · exact z
    · have y := hA b z
      rw [y] at e z
      rw [hK z] at e
      cases e
  have lim2 : (hidT s₁.heap H).NoLimit := by
    obtain ⟨mc, q1, q2⟩ := hlim
    exact ⟨mc, ns_of q1, q2⟩
  have md : Mod K mg (hidT s₁.heap H) := ⟨kb, ns_of hns, ⟨mb, ns_of hb, hbb⟩, lim2⟩
  have nofr : ∀ b ∈ frs ([] : List Env), H b = none := fun b hm => nomatch hm
  have e0 : Env0 P w K mg (hidT s₁.heap H) callerA [] s₁ H := { frames := rfl, mod := md, bs := fun b u e => of_hidT e, bsz := Nat.le_of_eq (hidT_size _ _), funs := trivial, frf := nofr, hok := hok, bare := .of_eq hg }
  have prom : toSp K 1 sp_law [.ref a] H (fun v _ => v = .bl true) (fun _ _ _ => False) := by
    refine ⟨⟨H, H, fun _ => False, []⟩, H, fun _ => none, fun _ => none, [.scr ns], fun d _ => d = .bl true, fun _ _ _ => False, rfl, ?_, ⟨.ref a, [], rfl, ⟨a, rfl, hS⟩, rfl⟩, ⟨hl, rfl⟩, fun v H' F' O' M' d _ r e => ?_, fun _ _ _ _ _ _ _ _ _ z => z⟩
    · exact { sub := fun _ _ e => e, ext0 := fun _ _ e => e, new := fun _ _ e => .inl e, frm := fun _ _ e _ => e, thr := fun _ u e => ⟨u, e⟩, liv := fun _ _ e => (nomatch e), slo := fun _ _ e => (nomatch e), tm := fun _ _ e => (nomatch e), mu := fun _ _ e => (nomatch e) }
    · have e' : d = .bl true := e
      subst e'
      exact r
  refine codeAny_mono ((G _ kb (ns_of hns)).run callerA [] s₁ H ⟨[.ref a], []⟩ [.ref a] [.ref a] _ _ hr rfl e0 (hbind s₁ (.ref a)) (.cons rfl .nil) prom) ?_
  intro r s' h
  cases r with
  | error e =>
    obtain ⟨_, _, _, _, _, _, _, _, _, _, _, _, z⟩ := h
    exact z.elim
  | ok fl =>
    cases fl with
    | ret u =>
      obtain ⟨v, H', h1, h2, un, hok', rv, q⟩ := h
      have q' : v = .bl true := q
      subst q'
      have eu : u = Value.bool true := rv
      subst eu
      refine ⟨rfl, OldK.of_keep fun b u e => ?_, h1, h2⟩
      rcases hO b with z | ⟨ob, xs, z⟩
      · exact un.keep b u e z (fun y => nomatch y) (fun y => nomatch y)
      · obtain ⟨e1, _⟩ := hok b _ z
        obtain ⟨e2, _⟩ := hok' b _ (un.frzs b ob _ z)
        rw [e] at e1
        cases e1
        exact e2
    | next => exact h.elim
    | brk => exact h.elim
    | cont => exact h.elim
theorem law_end (KX : K.In s₁.heap) (hns : s₁.heap.Ns mainGlobals mg) (hb : s₁.heap.Ns builtinsNs mb) (hbb : ∀ x : Str, x ≠ "__name__" → mb x = bootBuiltins x) (hlim : s₁.heap.NoLimit) (hg : s₁.gens = #[])
    (ha : s₁.heap.get? a = some { cls := .type "list", data := .seq vs.toArray }) (hi : IntsAre vs ns) (hl : ns.length ≤ 63) (hr : Room k callerA) (G : ∀ base : Heap, K.In base → base.Ns mainGlobals mg → FnG P w K mg base k fa fd [x] (toSp K 1 sp_law))
    (hbind : ∀ (s : Shared) (u : Value), BindsTo s fd ⟨[u], []⟩ [(x, u)]) : codeAny (model P w) callerA (.call (.ref fa) ⟨[.ref a], []⟩) (GoodEnd s₁) s₁ := by
  have rv := vals_ints hi
  have hz : ns.length ≤ sizeLine := Nat.le_trans hl (by decide)
  cases hk : K.lookup a with
  | some o =>
    have e := KX a o hk
    rw [ha] at e
    cases e
    exact law_from (fun _ => none) KX hns hb hbb hlim hg ha hl hr G hbind (fun _ => .inl rfl) (.inr ⟨_, vs.toArray, _, hk, rfl, rfl, rfl, by rw [List.size_toArray, ← hi.length] at *; simpa using hz, by simpa using rv⟩) (fun _ _ z => nomatch z) (fun _ z => absurd rfl z) (fun z => absurd rfl z)
  | none =>
    refine law_from (trackS a { cls := .type "list", data := .seq vs.toArray } (ns.map V.int)) KX hns hb hbb hlim hg ha hl hr G hbind (fun b => ?_) (.inl (.inr ⟨_, trackS_at⟩)) (fun b u z => ?_) (fun b z => ?_) (fun _ => hk)
    · by_cases y : b = a
      · exact .inr ⟨_, _, by rw [y]; exact trackS_at⟩
      · exact .inl (trackS_ne y)
    · by_cases y : b = a
      · subst y
        rw [trackS_at] at z
        cases z
        exact ⟨ha, by rw [List.length_map]; exact hz, vs, _, rv, ha⟩
      · rw [trackS_ne y] at z
        cases z
    · by_cases y : b = a
      · exact y
      · exact absurd (trackS_ne y) z
end
/-- the goal that the head leaves, from the law's promise -/
theorem walk_g {l : PySem.W.OpenLaw} {k : Nat} {q : Program} {loose : List Str} {XP : (Str → Option Value) → Heap → Prop} {YP : World → Heap → Prop} {d : DefRec} {K : Params → PySem.W.Frag} {x : Str} (hn : l.most = some 63) (hdf : d.params.defaults = []) (hr : Room k callerA)
    (hY : ∀ (w : World) (h : Heap), YP w h → (K w.params).In h)
    (G : ∀ (w : World) (mg : Str → Option Value) (fa : Addr) (h : Heap), (K w.params).In h → h.Ns mainGlobals mg → mg d.name = some (.ref fa) →
      ∃ fd : FuncData, (∀ (s : Shared) (u : Value), BindsTo s fd ⟨[u], []⟩ [(x, u)]) ∧ ∀ base : Heap, (K w.params).In base → base.Ns mainGlobals mg → FnG l.prog w (K w.params) mg base k fa fd [x] (toSp (K w.params) 1 sp_law)) :
    PySem.W.WalkO q loose XP YP l.row.toRowW d [] (fun f vs => PySem.call f vs) := by
  refine Att.attach_call hn hdf fun w s₀ s₁ mg mb fa o pm cd doc a vs ns G0 Y ho hd hcd hmg hobj hints hlen hg => ?_
  obtain ⟨fd, hbd, hF⟩ := G w mg fa _ (hY w _ Y) G0.T.g hmg
  exact law_end (hY w _ Y) G0.T.g G0.T.b G0.T.builtins G0.T.nolimit hg hobj hints hlen hr hF hbd
end Px

set_option Elab.async false
set_option linter.all false
set_option maxRecDepth 100000
namespace Px
open PySem PySem.Spec PyProof.Rows L2

/-! ## what all claims share: facts of the text, draws' two defs, loops -/
theorem ar1_len {ds : List D} {f : D → Prop} (h : ar1 ds f) : ds.length = 1 := by obtain ⟨_, rfl, _⟩ := ar1_of h; rfl
theorem ar2_len {ds : List D} {f : D → D → Prop} (h : ar2 ds f) : ds.length = 2 := by obtain ⟨_, _, rfl, _⟩ := ar2_of h; rfl
theorem ar3_len {ds : List D} {f : D → D → D → Prop} (h : ar3 ds f) : ds.length = 3 := by obtain ⟨_, _, _, rfl, _⟩ := ar3_of h; rfl
theorem ar4_len {ds : List D} {f : D → D → D → D → Prop} (h : ar4 ds f) : ds.length = 4 := by obtain ⟨_, _, _, _, rfl, _⟩ := ar4_of h; rfl
/-- a def of the text, where it stands -/
structure DefT (K : PySem.W.Frag) (mg : Str → Option Value) (x : Str) (stm : Stmt) (ps : List Str) (a : Addr) (fd : FuncData) : Prop where
  f : L2.Fun K x x stm a fd
  b : Binds K fd ps []
  g : mg x = some (.ref a)
theorem dg0 {X : Cx} {k : Nat} {x : Str} {p p2 p3 : Pos} {j : Nat} (hr : Room k X.A) (s : Str) (hN : X.N[0]? = some x := by rfl) (hv : Vis X.env.scope x := by first | exact Or.inl rfl | exact Or.inr (Or.inl rfl) | exact Or.inr (Or.inr rfl)) (hd : (x == ("__debug__" : Str)) = false := by decide)
    (hcd : (x == ("__classdict__" : Str)) = false := by decide) : PE X (.Subscript (.Name x p) (.Constant (.str s) j p2) p3) (tDGet (tVar 0) (tC (.str s))) := pe_dget (hu_of hr) (pv 0 hN hv hd hcd) pe_str (by intro _ _; rfl)
theorem de_gintE {X : Cx} {W : WX} {pos : Pos} {x : Str} {i : Int} (hg : Gl X x) (hm : ∃ t, X.mg x = some (.int i t)) (hd : (x == ("__debug__" : Str)) = false := by decide) : DE X W (.Name x pos) (dC (.int i)) := hm.elim fun _ h => de_gint hg h hd
theorem de_gstrE {X : Cx} {W : WX} {pos : Pos} {x y : Str} (hg : Gl X x) (hm : ∃ t, X.mg x = some (.str y t)) (hd : (x == ("__debug__" : Str)) = false := by decide) : DE X W (.Name x pos) (dC (.str y)) := hm.elim fun _ h => de_gstr hg h hd
/-- a loop keeps what it keeps -/
theorem forR_inv {gd : PTG} {pb : PTS} {w : PWi} {P : PEnds} (I : Rho → Mm → Prop) : ∀ (ds : List D), (∀ d ∈ ds, ∀ F : Rho → Mm → Prop, (∀ ρ M, I ρ M → F ρ M) → ∀ ρ M, I ρ M → gd d ρ fun ρ' => pb w { P with nx := F, ct := F, bk := P.nx } ρ' M) →
    (∀ ρ M, I ρ M → P.nx ρ M) → ∀ ρ M, I ρ M → forR gd pb w ds P ρ M
  | [], _, he, ρ, M, h => he ρ M h
  | d :: ds, hb, he, ρ, M, h => hb d List.mem_cons_self _ (forR_inv I ds (fun d' hd' => hb d' (List.mem_cons_of_mem _ hd')) he) ρ M h
theorem updM_same {M : Mm} {a : Addr} {mo : Mo} : updM M a mo a = some mo := if_pos rfl
theorem updM_le {M : Mm} {a : Addr} {mo : Mo} (h : M a = none) : MLe M (updM M a mo) := fun b m e => by
  show (if b = a then some mo else M b) = some m
  rw [if_neg (fun z => by rw [z, h] at e; exact nomatch e)]
  exact e
theorem rngD_mem {lo : Int} {n : Nat} {d : D} (h : d ∈ rngD lo n) : ∃ i : Int, d = .int i ∧ lo ≤ i ∧ i < lo + n := by
  obtain ⟨i, hi, rfl⟩ := List.mem_map.mp h
  have := List.mem_range.mp hi
  exact ⟨lo + i, rfl, by omega, by omega⟩
/-! ### the draw's first def -/
def rd_begin : PTS := (dSeq (dSetO 1 (dComp [2] (iL (dVar 0)) (gNm 2) (dTst (dOp fGe (dB1 fAbs (dVar 2)) (dOp fPow (dC (.int 10)) (dC (.int 18))))) (dB1 fAbs (dVar 2)))) dRetDraw)
theorem comp_begin {w : List Nat} {ρ : Rho} {M : Mm} {q : List D → Mm → Prop} (hρ : ∃ x y z, ρ = [x, y, z]) : ∀ (ns : List Int) (acc : List Int), acc.length + ns.length ≤ 63 → (∀ l : List Int, l.length ≤ 63 → q (l.map .int) M) →
    compR (gNm 2) (dTst (dOp fGe (dB1 fAbs (dVar 2)) (dOp fPow (dC (.int 10)) (dC (.int 18))))) (dB1 fAbs (dVar 2)) ρ (ns.map .int) (acc.map .int) M q
  | [], acc, h, k => k acc (by simpa using h)
  | n :: ns, acc, h, k => by
    obtain ⟨x, y, z, rfl⟩ := hρ
    have hl : acc.length + ns.length + 1 ≤ 63 := by
      have e : acc.length + (ns.length + 1) ≤ 63 := h
      omega
    refine ⟨⟨by decide, by decide, by decide⟩, ?_⟩
    show if decide ((10 : Int) ^ (18 : Int).toNat ≤ if n < 0 then -n else n) = true then _ else _
    by_cases c : (10 : Int) ^ (18 : Int).toNat ≤ if n < 0 then -n else n
    · refine itT (decide_eq_true c) ⟨?_, ?_⟩
      · rw [List.length_map]; omega
      · have e := comp_begin (w := w) (ρ := [x, y, z]) (M := M) (q := q) ⟨x, y, z, rfl⟩ ns (acc ++ [if n < 0 then -n else n]) (by rw [List.length_append, List.length_singleton]; omega) k
        rw [List.map_append] at e
        exact e
    · exact itF (decide_eq_false c) (comp_begin (w := w) ⟨x, y, z, rfl⟩ ns acc (by omega) k)
def asScr (d : D) (f : List Int → Prop) : Prop := match d with | .scr ns => f ns | _ => False
theorem asScr_of {d : D} {f : List Int → Prop} (h : asScr d f) : ∃ ns, d = .scr ns ∧ f ns := by
  unfold asScr at h
  split at h
  · exact ⟨_, rfl, h⟩
  · exact h.elim
theorem sh_begin : Shows sp_begin 3 rd_begin := by
  intro ds M q e h
  obtain ⟨d, rfl, h⟩ := ar1_of h
  obtain ⟨ns, rfl, hn, hq⟩ : ∃ ns, d = .scr ns ∧ ns.length ≤ 63 ∧ ∀ a, M a = none → q (.raw (.ref a)) (updM M a .draw) := by
    cases d with
    | scr ns => exact ⟨ns, rfl, h⟩
    | _ => exact (show False from h).elim
  refine ⟨rfl, comp_begin (w := []) ⟨_, _, _, rfl⟩ ns [] (by simpa using hn) fun l hl => ?_⟩
  exact ⟨l, ns, rfl, rfl, hl, hn, fun a ha => ⟨_, MLe.refl _, hq a ha⟩⟩
/-! ### picking -/
def sp_pick : PSp := fun ds M q _ => ar2 ds fun d l => asL l fun l => asDraw d M ((0 < l.length ∧ l.length ≤ 100000) ∧ ∀ x ∈ l, q x M)
def rd_pick : PTS := (dRet (dOp fIx (dVar 1) (dCall sp_take [] (dCons (dVar 0) (dCons (dB1 fLen (dVar 1)) dNil)))))
theorem log_small {n : Int} (h0 : 0 ≤ n) (h : n ≤ 2 ^ 4000) : n.natAbs.log2 < 9000 := by
  have e : n.natAbs ≤ 2 ^ 4000 := by omega
  exact PySem.Flt.log2_lt_of (by decide) (Nat.lt_of_le_of_lt e (Nat.pow_lt_pow_right (by decide) (by decide)))
theorem sh_pick : Shows sp_pick 2 rd_pick := by
  intro ds M q e h
  obtain ⟨d, x, rfl, h⟩ := ar2_of h
  obtain ⟨l, rfl, h⟩ := asL_of h
  obtain ⟨a, rfl, hM, ⟨h0, h1⟩, hq⟩ := asDraw_of h
  refine ⟨hM, ⟨by omega, log_small (by omega) ?_⟩, fun k k0 k1 => ?_⟩
  · have : (100000 : Int) ≤ 2 ^ 4000 := by decide
    omega
  · obtain ⟨j, rfl⟩ : ∃ j : Nat, k = j := ⟨k.toNat, by omega⟩
    have hj : j < l.length := by omega
    exact ⟨l[j], atI_nat (List.getElem?_eq_getElem hj), M, MLe.refl M, hq _ (List.getElem_mem hj)⟩
end Px

set_option Elab.async false
set_option linter.all false
set_option maxRecDepth 100000
namespace Px
open PySem PySem.Spec PyProof.Rows L2

/-! ## what is never reached -/
def dNever : PTE := fun _ _ _ _ => False
def dNeverS : PTS := fun _ _ _ _ => False
section
variable {X : Cx} {W : WX} {e : Expr} {st1 : Stmt}
theorem de_never : DE X W e dNever := ⟨fun _ _ _ _ _ _ ⟨_, _, _, _, _, _, _, _, z, _⟩ => z.elim⟩
theorem ds_never : DS X W st1 dNeverS := ⟨fun _ _ _ _ _ _ ⟨_, _, _, _, _, _, _, _, z, _⟩ => z.elim⟩
end
/-! ## == of texts -/
def fEqS : F2
  | .str a, .str b, k => k (.bl (decide (a = b)))
  | _, _, _ => False
def fNeS : F2
  | .str a, .str b, k => k (.bl (!decide (a = b)))
  | _, _, _ => False
section
variable {X : Cx} {W : WX} {K : PySem.W.Frag} {a b : Expr} {pa pb : PTE} {pos : Pos}
theorem opf_eqS : OpF K rEq fEqS := by
  intro g σ H ρ M F O x y v u k Q A rx ry h c
  unfold fEqS at h
  split at h
  · rename_i a b
    rw [rx.str, ry.str]
    refine ⟨rfl, c (.bl (decide (a = b))) _ H F O A (Same.refl F) ?_ h⟩
    show Rp K F (.bl (decide (a = b))) (.bl (decide (V.str a = V.str b)))
    by_cases z : a = b
    · subst z; simp; rfl
    · rw [decide_eq_false z, decide_eq_false (fun y => z (V.str.inj y))]; rfl
  · exact h.elim
theorem opf_neS : OpF K rNe fNeS := by
  intro g σ H ρ M F O x y v u k Q A rx ry h c
  unfold fNeS at h
  split at h
  · rename_i a b
    rw [rx.str, ry.str]
    refine ⟨rfl, c (.bl (!decide (a = b))) _ H F O A (Same.refl F) ?_ h⟩
    show Rp K F (.bl (!decide (a = b))) (.bl (!decide (V.str a = V.str b)))
    by_cases z : a = b
    · subst z; simp; rfl
    · rw [decide_eq_false z, decide_eq_false (fun y => z (V.str.inj y))]; rfl
  · exact h.elim
theorem de_eqS (ha : DO X W a pa) (hb : DO X W b pb) : DE X W (.Compare a [.Eq] [b] pos) (dOp fEqS pa pb) := de_cmp op_eq opf_eqS ha hb (nomark _)
theorem de_neS (ha : DO X W a pa) (hb : DO X W b pb) : DE X W (.Compare a [.NotEq] [b] pos) (dOp fNeS pa pb) := de_cmp op_ne opf_neS ha hb (nomark _)
theorem dt_eqS (ha : DO X W a pa) (hb : DO X W b pb) : DT X W (.Compare a [.Eq] [b] pos) (dTst (dOp fEqS pa pb)) := dt_cmp op_eq opf_eqS ha hb (nomark _)
theorem dt_neS (ha : DO X W a pa) (hb : DO X W b pb) : DT X W (.Compare a [.NotEq] [b] pos) (dTst (dOp fNeS pa pb)) := dt_cmp op_ne opf_neS ha hb (nomark _)
end
/-! ## repr of data -/
def showOk (d : PyData) : Prop := d.showable = true ∧ d.shown.length ≤ 16777216
def rRepr (K : PySem.W.Frag) : List V → Hp → VK → Prop := fun xs H Q => ∃ x d, xs = [x] ∧ Dp K H x d ∧ showOk d ∧ d.depth + 1 ≤ 64 ∧ d.hasDict = false ∧ Q (.str d.shown) H
section
variable {X : Cx} {W : WX} {K : PySem.W.Frag} {a : Expr} {pa : PTE} {p pos : Pos}
theorem call_reprD (hG : X.A.guards = some []) (hu : X.A.units + 64 < cLine) : CallR X (.builtin "repr") (rRepr X.K) := by
  intro pins s σ H xs us Q I r h
  obtain ⟨x, d, rfl, hd, ⟨h1, h2⟩, h3, h4, q⟩ := h
  obtain ⟨u, rfl, ru⟩ := L2.Vals.one r
  obtain ⟨as, rd⟩ := Dp.reads I d x u hd ru
  have hz : d.shown.length ≤ sizeLine := h2
  have fin : ∀ (a : Addr), u = .ref a → wpAny (model X.prog X.w) X.A (call (.builtin "repr") [u]) (EP X pins σ Q) X.xe s := fun a eu => by
    subst eu
    exact repr_of_reads' rd h1 (PyData.noDict_hsm h4) hG (by omega) (fun _ _ e => e) (fun h' t tk hk => ⟨.str d.shown, H, I.kept (t' := tk) hk, ⟨t, rfl⟩, q⟩) hz
  cases hd with
  | non =>
    cases ru
    exact PySem.P.repr_of_none ⟨.str _, H, I.tok _, ⟨_, rfl⟩, q⟩
  | bl b =>
    cases ru
    refine PySem.P.repr_of_bool ⟨.str (PyData.shown (.bool b)), H, I.tok _, ⟨s.toks, ?_⟩, q⟩
    simp only [PyData.shown]
  | int i =>
    obtain ⟨t, rfl⟩ := ru
    exact PySem.P.repr_of_int (by simpa [PyData.showable] using h1) ⟨.str (PyData.shown (.int i)), H, I.tok _, ⟨s.toks, by simp only [PyData.shown]⟩, q⟩
  | str x =>
    obtain ⟨t, rfl⟩ := ru
    exact PySem.P.repr_of_str ⟨.str (PyData.shown (.str x)), H, I.tok _, ⟨s.toks, by simp only [PyData.shown]⟩, q⟩ (by simpa [PyData.shown] using hz)
  | lst h _ => exact fin _ ru
  | tup h _ => exact fin _ ru
def fRepr : F1 := fun x k => okD 50 x = true ∧ showOk (toPy x) ∧ k (.str (toPy x).shown)
theorem bf_repr : BF1 K (rRepr K) fRepr := by
  intro g σ H ρ M F O x v k Q A rx h c
  obtain ⟨h1, h2, hk⟩ := h
  have px := okP_of _ _ h1
  obtain ⟨y1, y2⟩ := py_ok 50 x px
  exact ⟨v, _, rfl, vw_dp A px rx, h2, by omega, PyData.hasDict_of_canLay _ y1, c (.str (toPy x).shown) _ H F O A (Same.refl F) rfl hk⟩
theorem de_repr (hG : X.A.guards = some []) (hu : X.A.units + 64 < cLine) (hg : Gl X "repr") (hm : X.mg "repr" = none) (ha : DO X W a pa) (he : starEach [a] X.env = (false, eval a X.env) :: starEach [] X.env := by rfl) (hpl : (backTo pos (starEach [] X.env)).any (·.1) = false := by rfl) :
    DE X W (.Call (.Name "repr" p) [a] [] pos) (dB1 fRepr pa) := de_b1 (call_reprD hG hu) bf_repr hg hm (by decide +kernel) ha (by decide) (by decide) he hpl
end
/-! ## own lists: append -/
def appR (ρ : Rho) (i : Nat) (d : D) (k : Rho → Prop) : Prop := match gt ρ i with | some (.own l) => l.length < 1000000 ∧ k (st ρ i (.own (l ++ [d]))) | _ => False
theorem appR_of {ρ : Rho} {i : Nat} {d : D} {k : Rho → Prop} (h : appR ρ i d k) : ∃ l, gt ρ i = some (.own l) ∧ l.length < 1000000 ∧ k (st ρ i (.own (l ++ [d]))) := by
  unfold appR at h
  split at h
  · exact ⟨_, by assumption, h⟩
  · exact h.elim
def isOwn (ρ : Rho) (i : Nat) : Prop := match gt ρ i with | some (.own _) => True | _ => False
theorem isOwn_of {ρ : Rho} {i : Nat} (h : isOwn ρ i) : ∃ l, gt ρ i = some (.own l) := by
  unfold isOwn at h
  split at h
  · exact ⟨_, by assumption⟩
  · exact h.elim
def dApp (i : Nat) (pe : PTE) : PTS := fun w P ρ M => isOwn ρ i ∧ pe w ρ M fun d M' => appR ρ i d fun ρ' => P.nx ρ' M'
section
variable {X : Cx} {W : WX} {e : Expr} {pe : PTE} {pos p1 p2 p3 : Pos}
theorem ds_app (i : Nat) {x : Str} (he : DE X W e pe) (hN : X.N[i]? = some x := by rfl) (hv : Vis X.env.scope x := by first | exact Or.inl rfl | exact Or.inr (Or.inl rfl) | exact Or.inr (Or.inr rfl)) (hd : (x == ("__debug__" : Str)) = false := by decide)
    (hcd : (x == ("__classdict__" : Str)) = false := by decide) (hs : starEach [e] X.env = (false, eval e X.env) :: starEach [] X.env := by rfl)
    (hbase : attributeBase (.Name x p1) "append" X.env (eval (.Name x p1) X.env) = eval (.Name x p1) X.env := by rfl)
    (hfew : ((backTo p3 (starEach [e] X.env)).all (fun x => !x.1) && (backToKw p3 (keywordEach [] X.env)).all (fun x => x.1.isSome)
      && decide ([e].length + ([] : List Keyword).length + (if ([] : List Keyword).isEmpty then 0 else 1) < 30)) = true := by rfl)
    (hline : (p2.endLine == p3.line) = true := by rfl) (hplain : (backTo p3 (starEach [] X.env)).any (·.1) = false := by rfl) :
    DS X W (.Expr (.Call (.Attribute (.Name x p1) "append" p2) [e] [] p3) pos) (dApp i pe) :=
  ps_imp (ps_expr (pe_bm PySem.F.plainAttrs_list PySem.F.slot_list_append PySem.F.type_list_append mt_append (pv i hN hv hd hcd) (pa_cons he pa_nil hs) hbase hfew hline hs hplain)) fun D σ H ⟨g, ρ, M, F, O, P, w, A, ⟨h0, h⟩, hw, k1, _⟩ => by
    obtain ⟨l0, e0⟩ := isOwn_of h0
    obtain ⟨v, hv', l, xs, rfl, hl, rl, hO⟩ := A.sl i _ e0
    refine ⟨.ref l, hv', .inl ⟨rfl, xs, .inl (.inl hl)⟩, g, ρ, M, F, O, _, w, A, h, hw, fun u H1 F1 O1 M1 d A1 s1 r1 q1 => ?_⟩
    obtain ⟨l1, e1, hz, q2⟩ := appR_of q1
    obtain ⟨v2, hv2, l2, ys, ev, hl2, rl2, hO2⟩ := A1.sl i _ e1
    rw [hv'] at hv2
    cases hv2
    cases ev
    refine ⟨l, ys, u, rfl, rfl, hl2, by rw [← rl2.len]; exact line_lt hz, ?_⟩
    exact k1 _ _ _ _ F1 O1 (A1.chg (xs := ys) e1 hv' hO2 (rl2.app (show RpL X.K F1 [d] [u] from ⟨u, [], rfl, r1, rfl⟩))) s1 q2
end
end Px

set_option Elab.async false
set_option linter.all false
set_option maxRecDepth 100000

namespace PySem
open Sem (wp)
/-! ## enumerate of a tuple, at the library's level -/
set_option maxHeartbeats 1000000 in
theorem px_meets_enum1 {v : Value} {o : Obj} {H : Heap → Prop} (B : Begins v o H) :
    Meets (Builtin.«enumerate.__new__» ⟨[.type "enumerate", v], []⟩) (fun _ R s => H s.heap ∧
      R (.ok (.ret (.ref (s.heap.push o).objs.size))) { s with heap := (s.heap.push o).push { cls := .type "enumerate", data := .fields #[.none, .bool false, .ref s.heap.objs.size, rawInt 0, .none, .none] } }) :=
  .of_wp fun prog w A R s h => by
    obtain ⟨hp, g, d, tk, os⟩ := s; obtain ⟨h1, h⟩ := h
    have hsub := sub_enumerate
    have q1 : ∀ {A' : Around} {E : Value → Shared → Prop} {Q : Value → Shared → Prop}, Q (.ref hp.objs.size) ⟨hp.push o, g, d, tk, os⟩ → wpAny (model prog w) A' (pyIter v) Q E ⟨hp, g, d, tk, os⟩ :=
      fun q => B.iter prog w _ _ ⟨hp, g, d, tk, os⟩ _ h1 q
    wp_walk using q1
    refine wpAny_stack_any fun st => wpAny_pure ?_
    split
    · rename_i c _ _ _ _ _
      cases (c == Value.type "enumerate")
      · wp_walk using q1
        exact ⟨_, rfl, h⟩
      · wp_walk using q1
        exact ⟨_, rfl, h⟩
    · wp_walk using q1
      exact ⟨_, rfl, h⟩
section
variable {prog : Program} {w : World} {A : Around} {E : Value → Shared → Prop} {s : Shared}
theorem px_enum1 {v : Value} {o : Obj} {H : Heap → Prop} {Q : Value → Shared → Prop} (B : Begins v o H) (h1 : H s.heap)
    (h : ∀ h', IsEnum h' (s.heap.objs.size + 1) s.heap.objs.size 0 .none → h'.get? s.heap.objs.size = some o → h'.objs.size = s.heap.objs.size + 2 →
      (∀ b o, s.heap.get? b = some o → h'.get? b = some o) → Q (.ref (s.heap.objs.size + 1)) { s with heap := h' }) :
    wpAny (model prog w) A (call (.type "enumerate") [v]) Q E s := by
  refine callType_new F.called_enumerate (by decide) (F.typeCall_enumerate_1 _) (F.newCall_enumerate_1 _) (fun obj => F.args_object_init_2 obj _) F.entry_enumerate_new
    (px_meets_enum1 B) ⟨h1, ?_⟩
  have hz : (s.heap.push o).objs.size = s.heap.objs.size + 1 := Heap.size_push ..
  show _ ∧ _
  rw [hz]
  have he : IsEnum ((s.heap.push o).push { cls := .type "enumerate", data := .fields #[.none, .bool false, .ref s.heap.objs.size, rawInt 0, .none, .none] }) (s.heap.objs.size + 1) s.heap.objs.size 0 .none := by
    have := Heap.get?_push_size (s.heap.push o) (o := { cls := .type "enumerate", data := .fields #[.none, .bool false, .ref s.heap.objs.size, rawInt 0, .none, .none] }) rfl
    rw [hz] at this; exact this
  refine ⟨⟨_, he, rfl⟩, h _ he (Heap.get?_push_of_some _ (Heap.get?_push_size _ B.free)) (by rw [Heap.size_push, hz]) fun b o x => Heap.get?_push_of_some _ (Heap.get?_push_of_some _ x)⟩
theorem px_enum_endT {e it t : Addr} {i : Nat} {k : Int} {items : Array Value} {old : Value} {Q : Option Value → Shared → Prop} (hh : A.handled = none)
    (he : IsEnum s.heap e it k old) (hit : s.heap.IsTupleIter it t i) (ht : s.heap.IsTuple t items) (hx : items[i]? = none)
    (hQ : ∀ h', Heap.ExtBut it s.heap h' → Q none { s with heap := h' }) : wpAny (model prog w) A (pyNext (.ref e)) Q E s := by
  have hT : s.TypeIs (.ref e) "enumerate" := ⟨_, he, rfl⟩
  unfold pyNext
  refine wpAny_bind (wpAny_attempt (wpAny_callSpecial?_slot (name := Str.ofString "__next__") hT F.slot_enumerate_next
    (wpAny_call_entry F.slot_enumerate_next hT F.entry_enumerate_next ?_ (F.args_enumerate_next_1 _))))
  show wpAny _ _ (field (.ref e) 2 >>= _) _ _ _
  refine wpAny_bind (wpAny_field he rfl (x := .ref it) rfl ?_)
  refine wpAny_bind (wpAny_nextOf_tuple_end (A := A.in1) (show A.in1.handled = none from hh) hit ht hx fun h' x he' hx' => ?_)
  obtain ⟨o, ho, hc⟩ := hx'
  refine wpAny_bind (wpAny_isInstance (T := "StopIteration") (b := true) ⟨o, ho, hc⟩ isSubtype_stop ?_)
  exact wpAny_pure (hQ _ he')
end
end PySem
namespace Px
open PySem PySem.Spec PyProof.Rows L2
/-! ## walkers over a list or a tuple -/
/-- the tuple at a, each item in a new pair -/
def Iteu (K : PySem.W.Frag) (a : Addr) : It :=
  ⟨fun i H => ∃ (xs : List V) (x : V), SqT K H a xs ∧ xs[i]? = some x, fun i H v H' => ∃ T x, v = .ref T ∧ H T = none ∧ H' = upd H T (.tup [.int (i : Nat), x]) ∧ ∀ xs, SqT K H a xs → xs[i]? = some x, fun i H => ∃ xs : List V, SqT K H a xs ∧ xs.length ≤ i⟩
theorem turn_enumT {P : Program} {w : World} {K : PySem.W.Frag} {elts : List Expr} {kk : Nat} {tpos : Pos} (a e it : Addr) (hna : a ≠ it) :
    Turn P w K (.Tuple elts kk tpos) (Iteu K a) [e, it] e (fun i h => (∃ old, IsEnum h e it ((i : Nat) : Int) old) ∧ h.IsTupleIter it a i ∧ e ≠ it ∧ e ≠ a) where
  mem := by simp
  obj := fun i h st b hb => by
    obtain ⟨⟨old, he⟩, ⟨o, ho, hc, hd⟩, _⟩ := st
    have e' : b = e ∨ b = it := by simpa using hb
    rcases e' with z | z
    · rw [z]; exact ⟨_, he, fun v q => nomatch q⟩
    · rw [z]; exact ⟨o, ho, fun v q => by rw [hd] at q; cases q⟩
  keep := fun i h h' st k => let ⟨⟨old, he⟩, hi, hne⟩ := st; ⟨⟨old, k e (by simp) _ he⟩, hi.at fun o q => k it (by simp) o q, hne⟩
  item := by
    intro X hP hw hK hc i pins s σ H E I hf st hg
    subst hP hw hK
    obtain ⟨⟨old, he⟩, hit, hne, hea⟩ := st
    obtain ⟨xs, x, hq, hx⟩ := hg
    obtain ⟨its, rv, p, hz⟩ := I.tuple hq
    obtain ⟨u, hu, ru⟩ := rv.get hx
    have hel : e < s.heap.objs.size := Heap.lt_size he
    have hil : it < s.heap.objs.size := by obtain ⟨_, q, _⟩ := hit; exact Heap.lt_size q
    have pt : s.heap.IsTuple a its.toArray := p
    have hlt : i < its.toArray.size := by
      have := (List.getElem?_eq_some_iff.mp hu).1
      simpa using this
    refine wpAny_pyNext_enum_itemD (Draws.tuple (A := X.A.in1) (show X.A.in1.handled = none from I.ok.hd hc) it a hna its.toArray) he ⟨hit, pt⟩ hlt hne (by simp [hne, hea]) fun y h' tk hy ho hst hT hsz hk => ?_
    have hy' : y = u := by
      have q : its.toArray[i]? = some y := hy
      have q2 : its.toArray[i]? = some u := by simpa using hu
      rw [q2] at q; cases q; rfl
    subst hy'
    refine ⟨_, rfl, wpAny_letOwnedTupleGo_enum (s := { s with heap := h', toks := tk + 1 }) ho fun h'' he' sb => ?_⟩
    have hT2 : h''.get? s.heap.objs.size = some { cls := .type "tuple", data := .seq #[.int i tk, y] } := (sb.2 _ (Nat.ne_of_gt hel)).trans hT
    have new : ObjOk X.prog X.w (upd H s.heap.objs.size (.tup [.int (i : Nat), x])) h'' s.heap.objs.size (.tup [.int (i : Nat), x]) :=
      ⟨by show 2 ≤ sizeLine; decide, [.int i tk, y], .cons ⟨_, rfl⟩ (.cons ru .nil), ⟨_, hT2, rfl, _, rfl⟩⟩
    have I1 : Inv X pins σ (upd H s.heap.objs.size (.tup [.int (i : Nat), x])) { s with heap := h'', toks := tk + 1 } :=
      I.turnedNew (ch := [e, it]) (fun b ob hb q => (sb.2 b (fun z => hb (by simp [z]))).trans (hk b ob (fun z => hb (by simp [z])) (fun z => hb (by simp [z])) q)) hf (Nat.le_refl _) new
    refine ⟨.ref s.heap.objs.size, _, I1, rfl, ⟨_, x, rfl, I.hok.fresh (Nat.le_refl _), rfl, fun ys hy => by rw [I.tuple_inj hy hq]; exact hx⟩, ⟨⟨y, ?_⟩, hst.1.at fun o q => (sb.2 it (Ne.symm hne)).trans q, hne, hea⟩, fun b hb => ?_⟩
    · have e1 : ((i + 1 : Nat) : Int) = (i : Int) + 1 := by omega
      rw [e1]; exact he'
    · have hb' : b < s.heap.objs.size := by
        have e' : b = e ∨ b = it := by simpa using hb
        rcases e' with z | z
        · rw [z]; exact hel
        · rw [z]; exact hil
      rw [upd_ne (Nat.ne_of_lt hb')]
      exact (hf b hb).1
  done := by
    intro X hP hw hK hc i pins s σ H E I hf st hg
    subst hP hw hK
    obtain ⟨⟨old, he⟩, hit, hne, hea⟩ := st
    obtain ⟨xs, hq, hx⟩ := hg
    obtain ⟨its, rv, p, hz⟩ := I.tuple hq
    obtain ⟨f0, f1, f2, f3, f4, f5⟩ := hf it (by simp)
    have hl := rv.length
    have pt : s.heap.IsTuple a its.toArray := p
    exact px_enum_endT (I.ok.hd hc) he hit pt (by simp; omega) fun h' eb => ⟨rfl, I.turned (t' := s.toks) (fun b o hb q => eb b o hb q) f0 f1 f3 f4 f5⟩
  self := fun A i s Q E st h => let ⟨⟨_, he⟩, _⟩ := st; wpAny_pyIter_enum he h

section
variable {X : Cx} {W : WX} {tg e a b : Expr} {pe pa pb : PTE} {pl : PTA} {pos p tpos : Pos} {elts : List Expr} {kk : Nat}
/-- over a list or a tuple -/
def iAny (K : PySem.W.Frag) (tl : TE) : TI := fun σ H R => tl σ H fun x H1 => ∃ a, x = .ref a ∧ (((∃ xs, SqL K H1 a xs) ∧ R (Itl K a) H1) ∨ ((∃ xs, SqT K H1 a xs) ∧ R (Itt K a) H1))
theorem pi_any {tl : TE} (hl : PE X e tl) : PI X tg e (iAny X.K tl) := by
  refine ⟨fun pins s σ H R I h => ?_⟩
  refine thn (hl.run pins s σ H _ I h) fun v s1 ⟨x, H1, I1, r1, q1⟩ => ?_
  obtain ⟨a, e, (⟨⟨xs, hq⟩, q⟩ | ⟨⟨xs, hq⟩, q⟩)⟩ := q1
  · subst e
    cases r1
    obtain ⟨its, rv, p, hz⟩ := I1.list hq
    refine wpAny_pyIter_list p.isList ?_
    refine ⟨s1.heap.objs.size, [s1.heap.objs.size], _, _, H1, rfl, I1.kept (t' := s1.toks) fun b o e => Heap.get?_push_of_some _ e, turn_list a _, ⟨_, Heap.get?_push_size _ rfl, rfl, rfl⟩, fun b hb => ?_, q⟩
    have e : b = s1.heap.objs.size := by simpa using hb
    subst e
    exact I1.fpOk (Nat.le_refl _) (I1.hok.fresh (Nat.le_refl _))
  · subst e
    cases r1
    obtain ⟨its, rv, p, hz⟩ := I1.tuple hq
    refine wpAny_pyIter_tuple (show s1.heap.IsTuple a its.toArray from p) ?_
    refine ⟨s1.heap.objs.size, [s1.heap.objs.size], _, _, H1, rfl, I1.kept (t' := s1.toks) fun b o e => Heap.get?_push_of_some _ e, turn_tuple a _, ⟨_, Heap.get?_push_size _ rfl, rfl, rfl⟩, fun b hb => ?_, q⟩
    have e : b = s1.heap.objs.size := by simpa using hb
    subst e
    exact I1.fpOk (Nat.le_refl _) (I1.hok.fresh (Nat.le_refl _))
def iEnumA (K : PySem.W.Frag) (ta : TA) : TI := fun σ H R => ta σ H fun vs H1 => ∃ a xs, vs = [.ref a] ∧ ((SqL K H1 a xs ∧ R (Ite K a) H1) ∨ (SqT K H1 a xs ∧ R (Iteu K a) H1))
theorem pi_enumA {ta : TA} (hg : Gl X "enumerate") (hm : X.mg "enumerate" = none) (ha : PA X [e] ta) (hs : starEach [e] X.env = [(false, eval e X.env)] := by rfl) :
    PI X (.Tuple elts kk tpos) (.Call (.Name "enumerate" p) [e] [] pos) (iEnumA X.K ta) := by
  refine ⟨fun pins s σ H R I h => ?_⟩
  refine Call_ (ld_blt I hg hm boot_enumerate (PyProof.Rows.callWith_type1 (thn (ha.run pos pins s σ H _ I h) fun us s1 ⟨vs, H1, I1, r1, q1⟩ => ?_) hs rfl))
  obtain ⟨a, xs, ex, q1⟩ := q1
  subst ex
  cases r1 with
  | cons r rr =>
    cases rr
    cases r
    rcases q1 with ⟨hq, q⟩ | ⟨hq, q⟩
    · obtain ⟨its, rv, p', hz⟩ := I1.list hq
      refine call_enumerate_list p'.isList fun h' he hit hsz hk => wpAny_pyIter_enum he ?_
      have I2 : Inv X pins σ H1 { s1 with heap := h' } := I1.kept (t' := s1.toks) hk
      refine ⟨s1.heap.objs.size + 1, [s1.heap.objs.size + 1, s1.heap.objs.size], _, _, H1, rfl, I2, turn_enum a (s1.heap.objs.size + 1) s1.heap.objs.size, ⟨⟨.none, he⟩, hit, Nat.succ_ne_self _⟩, fun b hb => ?_, q⟩
      have e' : b = s1.heap.objs.size + 1 ∨ b = s1.heap.objs.size := by simpa using hb
      have hle : s1.heap.objs.size ≤ b := by
        rcases e' with z | z
        · rw [z]; exact Nat.le_add_right _ _
        · rw [z]; exact Nat.le_refl _
      exact I1.fpOk hle (I1.hok.fresh hle)
    · obtain ⟨its, rv, p', hz⟩ := I1.tuple hq
      have pt : s1.heap.IsTuple a its.toArray := p'
      have hal : a < s1.heap.objs.size := by obtain ⟨o, q, _⟩ := pt; exact Heap.lt_size q
      refine px_enum1 (begins_tuple a its.toArray) pt fun h' he hit hsz hk => wpAny_pyIter_enum he ?_
      have I2 : Inv X pins σ H1 { s1 with heap := h' } := I1.kept (t' := s1.toks) hk
      refine ⟨s1.heap.objs.size + 1, [s1.heap.objs.size + 1, s1.heap.objs.size], _, _, H1, rfl, I2, turn_enumT a (s1.heap.objs.size + 1) s1.heap.objs.size (Nat.ne_of_lt hal), ⟨⟨.none, he⟩, ⟨_, hit, rfl, rfl⟩, Nat.succ_ne_self _, Nat.ne_of_gt (Nat.lt_succ_of_lt hal)⟩, fun b hb => ?_, q⟩
      have e' : b = s1.heap.objs.size + 1 ∨ b = s1.heap.objs.size := by simpa using hb
      have hle : s1.heap.objs.size ≤ b := by
        rcases e' with z | z
        · rw [z]; exact Nat.le_add_right _ _
        · rw [z]; exact Nat.le_refl _
      exact I1.fpOk hle (I1.hok.fresh hle)
def iA (pe : PTE) : PTA := fun w ρ M q => pe w ρ M fun d M' => match d with | .lst l => q l M' | .tup l => q l M' | .scr ns => q (ns.map .int) M' | _ => False
theorem di_any (h : DE X W e pe) : DI X W tg e (iA pe) := pi_imp (pi_any h) fun σ H R ⟨g, ρ, M, F, O, q, w, A, pr, hw, k⟩ =>
  ⟨g, ρ, M, F, O, _, w, A, pr, hw, fun v H' F' O' M' d A' s r q => by
    cases d with
    | lst l =>
      obtain ⟨a, xs, e, hs, rl⟩ := r
      exact ⟨a, e, .inl ⟨⟨xs, .inl (.inl (A'.sub _ _ hs))⟩, k _ H' F' O' M' l A' s (wk_list (.inl (.inl hs)) rl) q⟩⟩
    | tup l =>
      obtain ⟨a, xs, e, hs, rl⟩ := r
      exact ⟨a, e, .inr ⟨⟨xs, same_t A'.sub hs⟩, k _ H' F' O' M' l A' s (wk_tup hs rl) q⟩⟩
    | scr ns =>
      obtain ⟨a, e, hs⟩ := r
      exact ⟨a, e, .inl ⟨⟨_, same_l A'.sub hs⟩, k _ H' F' O' M' _ A' s (wk_list hs (RpL.of_ints ns)) q⟩⟩
    | _ => exact (show False from q).elim⟩
theorem wk_enumT {K : PySem.W.Frag} {F : Hp} {a : Addr} {xs : List V} {ds : List D} (h : SqT K F a xs) (r : RpL K F ds xs) : Wk K (Iteu K a) F (enumD 0 ds) where
  go := fun g σ ρ M F' O H i A s hi => by
    rw [enumD_len] at hi
    exact ⟨xs, xs[i]'(by rw [← r.len]; exact hi), same_t (s.trans A.sub) h, List.getElem?_eq_getElem _⟩
  yl := fun g σ ρ M F' O H i x H' d A s ⟨T, y, ex, hT, eH, hx⟩ hd => by
    rw [enumD_get] at hd
    cases q : ds[i]? with
    | none => rw [q] at hd; cases hd
    | some d0 =>
      rw [q] at hd
      cases hd
      obtain ⟨z, h1, h2⟩ := r.get q
      have e2 := hx xs (same_t (s.trans A.sub) h)
      rw [h1] at e2
      have e3 : z = y := Option.some.inj e2
      subst e3 eH ex
      have sn := same_new (o := .tup [.int (i : Nat), z]) (A.f0 hT)
      exact ⟨_, A.lay hT, sn, T, _, rfl, .inl (.inl upd_same), .int (i : Nat), _, rfl, by rw [Nat.zero_add]; rfl, z, _, rfl, Rp.mono (s.trans sn) _ _ h2, rfl⟩
  sp := fun g σ ρ M F' O H A s => ⟨xs, same_t (s.trans A.sub) h, by rw [enumD_len, r.len]; exact Nat.le_refl _⟩
def iEA (pe : PTE) : PTA := fun w ρ M q => pe w ρ M fun d M' => match d with | .lst l => q (enumD 0 l) M' | .tup l => q (enumD 0 l) M' | _ => False
theorem di_enumA (hg : Gl X "enumerate") (hm : X.mg "enumerate" = none) (ha : DE X W a pa) (he : starEach [a] X.env = (false, eval a X.env) :: starEach [] X.env := by rfl) (hs : starEach [a] X.env = [(false, eval a X.env)] := by rfl) :
    DI X W (.Tuple elts kk tpos) (.Call (.Name "enumerate" p) [a] [] pos) (iEA pa) := pi_imp (pi_enumA hg hm (pa_cons ha pa_nil he) hs) fun σ H R ⟨g, ρ, M, F, O, q, w, A, pr, hw, k⟩ =>
  ⟨g, ρ, M, F, O, _, w, A, pr, hw, fun v H' F' O' M' d A' s r q => by
    cases d with
    | lst l =>
      obtain ⟨a, xs, e, hs, rl⟩ := r
      exact ⟨a, xs, by rw [e], .inl ⟨.inl (.inl (A'.sub _ _ hs)), k _ H' F' O' M' _ A' s (wk_enum (.inl (.inl hs)) rl) q⟩⟩
    | tup l =>
      obtain ⟨a, xs, e, hs, rl⟩ := r
      exact ⟨a, xs, by rw [e], .inr ⟨same_t A'.sub hs, k _ H' F' O' M' _ A' s (wk_enumT hs rl) q⟩⟩
    | _ => exact (show False from q).elim⟩
/-! ## isinstance(x, (T, U)) -/
def fIsi2 (t u : String) : F1 := fun d k => match tyD d with | some a => k (.bl (subTy a t || subTy a u)) | none => False
end
end Px

set_option Elab.async false
set_option linter.all false
set_option maxRecDepth 100000
namespace Px
open PySem PySem.Spec PyProof.Rows L2
section
variable {X : Cx} {W : WX} {tg e a b : Expr} {pe pa pb : PTE} {pl : PTA} {pos p tpos : Pos}
/-! ## isinstance(x, (T, U)) -/
theorem de_isi2 (T U : String) (hT : T ∈ tys) (hU : U ∈ tys) {x2 x3 : Str} {p2 p3 pt : Pos} {kt} (hg : Gl X "isinstance") (hm : X.mg "isinstance" = none) (hg2 : Gl X x2) (hm2 : X.mg x2 = none) (hv2 : bootBuiltins x2 = some (.type T))
    (hg3 : Gl X x3) (hm3 : X.mg x3 = none) (hv3 : bootBuiltins x3 = some (.type U)) (ha : DO X W a pa)
    (hn2 : x2 ≠ "__name__" := by decide) (hd2 : (x2 == ("__debug__" : Str)) = false := by decide) (hn3 : x3 ≠ "__name__" := by decide) (hd3 : (x3 == ("__debug__" : Str)) = false := by decide)
    (he : starEach [a, .Tuple [.Name x2 p2, .Name x3 p3] kt pt] X.env = (false, eval a X.env) :: starEach [.Tuple [.Name x2 p2, .Name x3 p3] kt pt] X.env := by rfl)
    (he2 : starEach [.Tuple [.Name x2 p2, .Name x3 p3] kt pt] X.env = (false, eval (.Tuple [.Name x2 p2, .Name x3 p3] kt pt) X.env) :: starEach [] X.env := by rfl)
    (he3 : starEach [.Name x2 p2, .Name x3 p3] X.env = (false, eval (.Name x2 p2) X.env) :: starEach [.Name x3 p3] X.env := by rfl) (he4 : starEach [.Name x3 p3] X.env = (false, eval (.Name x3 p3) X.env) :: starEach [] X.env := by rfl)
    (hpl : (backTo pos (starEach [.Tuple [.Name x2 p2, .Name x3 p3] kt pt] X.env)).any (·.1) = false := by rfl) : DE X W (.Call (.Name "isinstance" p) [a, .Tuple [.Name x2 p2, .Name x3 p3] kt pt] [] pos) (dB1 (fIsi2 T U) pa) :=
  pe_imp (pe_callB call_isiT hg hm (by decide +kernel) (pa_cons ha (pa_cons (pe_tup (pa_cons (pe_bltn (v := .ty T) hg2 hm2 hv2 rfl hn2 hd2) (pa_cons (pe_bltn (v := .ty U) hg3 hm3 hv3 rfl hn3 hd3) pa_nil he4) he3)) pa_nil he2) he) (by decide) (by decide) he hpl) fun σ H Q ⟨g, ρ, M, F, O, q, w, A, p, hw, k⟩ =>
  ⟨g, ρ, M, F, O, _, w, A, p, hw, fun v H1 F1 O1 M1 d A1 s1 r1 q1 => ⟨by show 2 ≤ sizeLine; decide, fun tp hp => by
    cases e : tyD d with
    | none => simp only [fIsi2, e] at q1
    | some t =>
      simp only [fIsi2, e] at q1
      have A2 := A1.laid (o := .tup [.ty T, .ty U]) hp
      refine ⟨v, tp, [.ty T, .ty U], _, [.type T, .type U], subTy t T || subTy t U, rfl, upd_same, .cons (.ty T) (.cons (.ty U) .nil), vw_ty A2 r1 e, ?_, k (.bl (subTy t T || subTy t U)) _ F1 O1 M1 (.bl (subTy t T || subTy t U)) A2 s1 rfl q1⟩
      refine kitAny_cons (kit_ty (kit_tys t (tyD_mem e) T hT)) (fun h1 => ?_) (fun h1 => by rw [h1]; rfl)
      rw [h1, Bool.false_or]
      exact kitAny_cons (kit_ty (kit_tys t (tyD_mem e) U hU)) (fun h2 => by rw [h2]; exact kitAny_nil) (fun h2 => h2)⟩⟩
/-! ## calls with keywords -/
/-- the values in the parameters' order -/
def pick {α : Type} (ix : List Nat) (l : List α) : List α := ix.filterMap fun i => l[i]?
abbrev DK (X : Cx) (W : WX) (ks : List Keyword) (p : PTA) : Prop := PK X ks (realA X.K W p)
theorem dk_nil : DK X W [] dNil := ⟨fun pos pins s σ H Q I ⟨g, ρ, M, F, O, q, w, A, p, hw, k⟩ => pk_nil.run pos pins s σ H Q I (k [] H F O M [] A (Same.refl F) rfl p)⟩
theorem dk_cons {nm : Option Str} {kpos : Pos} {kws : List Keyword} (ha : DE X W e pe) (hr : DK X W kws pl) : DK X W (⟨nm, e, kpos⟩ :: kws) (dCons pe pl) :=
  ⟨fun pos pins s σ H Q I ⟨g, ρ, M, F, O, q, w, A, p, hw, k⟩ => (pk_cons (nm := nm) (kpos := kpos) ha hr).run pos pins s σ H Q I
    ⟨g, ρ, M, F, O, _, w, A, p, hw, fun v H1 F1 O1 M1 d A1 s1 r1 q1 => ⟨g, ρ, M1, F1, O1, _, w, A1, q1, hw.mono s1, fun vs H2 F2 O2 M2 ds A2 s2 r2 q2 => k (v :: vs) H2 F2 O2 M2 (d :: ds) A2 (s1.trans s2) ⟨v, vs, rfl, Rp.mono s2 d v r1, r2⟩ q2⟩⟩⟩
theorem vals_get : ∀ {vs : List V} {us : List Value} (i : Nat), Vals vs us → (∃ v u, vs[i]? = some v ∧ us[i]? = some u ∧ RelV v u) ∨ (vs[i]? = none ∧ us[i]? = none)
  | _, _, _, .nil => .inr ⟨rfl, rfl⟩
  | _, _, 0, .cons r t => .inl ⟨_, _, rfl, rfl, r⟩
  | _, _, i + 1, .cons r t => vals_get i t
theorem vals_pick {vs : List V} {us : List Value} (h : Vals vs us) : ∀ ix : List Nat, Vals (pick ix vs) (pick ix us)
  | [] => .nil
  | i :: r => by
    rcases vals_get i h with ⟨v, u, h1, h2, h3⟩ | ⟨h1, h2⟩
    · unfold pick
      rw [List.filterMap_cons_some h1, List.filterMap_cons_some h2]
      exact .cons h3 (vals_pick h r)
    · unfold pick
      rw [List.filterMap_cons_none h1, List.filterMap_cons_none h2]
      exact vals_pick h r
theorem rpl_get {K : PySem.W.Frag} {F : Hp} : ∀ {ds : List D} {vs : List V} (i : Nat), RpL K F ds vs → (∃ d v, ds[i]? = some d ∧ vs[i]? = some v ∧ Rp K F d v) ∨ (ds[i]? = none ∧ vs[i]? = none)
  | [], vs, i, h => by
    have e : vs = [] := h
    subst e
    exact .inr ⟨rfl, rfl⟩
  | d :: ds, vs, 0, h => by
    obtain ⟨v, r, rfl, h1, h2⟩ := h
    exact .inl ⟨d, v, rfl, rfl, h1⟩
  | d :: ds, vs, i + 1, h => by
    obtain ⟨v, r, rfl, h1, h2⟩ := h
    exact rpl_get i h2
theorem rpl_pick {K : PySem.W.Frag} {F : Hp} {ds : List D} {vs : List V} (h : RpL K F ds vs) : ∀ ix : List Nat, RpL K F (pick ix ds) (pick ix vs)
  | [] => rfl
  | i :: r => by
    rcases rpl_get i h with ⟨v, u, h1, h2, h3⟩ | ⟨h1, h2⟩
    · unfold pick
      rw [List.filterMap_cons_some h1, List.filterMap_cons_some h2]
      exact ⟨u, _, rfl, h3, rpl_pick h r⟩
    · unfold pick
      rw [List.filterMap_cons_none h1, List.filterMap_cons_none h2]
      exact rpl_pick h r
def dCallK (sp : PSp) (ix : List Nat) (pl : PTA) : PTE := fun w ρ M q => pl w ρ M fun ds M1 => sp (pick ix ds) M1 q fun cls fs M2 => w cls fs ρ M2
/-- how keywords bind -/
def KwB (fd : FuncData) (ps ks : List Str) (ix : List Nat) : Prop := ∀ (s : Shared) (ws : List Value), (pick ix ws).length = ps.length → BindsTo s fd ⟨[], ks.zip ws⟩ (ps.zip (pick ix ws))
section
variable {k n : Nat} {f : Addr} {fd : FuncData} {ps ks : List Str} {sp : PSp} {x : Str} {kws : List Keyword} {ix : List Nat}
theorem de_callK (Fg : FnG X.prog X.w X.K X.mg X.base k f fd ps (toSp X.K n sp)) (hn : ps.length = n) (hlen : ∀ ds M q e, sp ds M q e → ds.length = n) (hr : Room k X.A) (hG : X.A.guards = some []) (hg : Gl X x) (hm : X.mg x = some (.ref f))
    (hk : PySem.W.keepIn X.K (.ref f) = true) (hb : KwB fd ps ks ix) (tk : Takes X W) (ha : DK X W kws pl)
    (hall : (backToKw pos (keywordEach kws X.env)).all (·.1.isSome) = true := by rfl) (hks : (backToKw pos (keywordEach kws X.env)).filterMap (·.1) = ks := by rfl) (hdb : (x == ("__debug__" : Str)) = false := by decide)
    (hpl : ((backTo pos (starEach [] X.env)).any (·.1) || (backToKw pos (keywordEach kws X.env)).any (·.1.isNone)) = false := by rfl) : DE X W (.Call (.Name x p) [] kws pos) (dCallK sp ix pl) := by
  refine ⟨fun pins s σ H Q I ⟨g, ρ, M, F, O, q, w, A, pr, hw, kk⟩ => ?_⟩
  refine wpAny_Call_Name_kw (ld_glob I hg hm ?_ hdb)
  refine PySem.W.callWith_KW0 (h₀ := X.base) I.ok.mod.kin hk hall (thn (ha.run pos pins s σ H (fun vs H1 => toSp X.K n sp (pick ix vs) H1 Q fun cls d H' => W cls d σ H') I ?_) fun us s1 hh => ?_) hpl
  · refine ⟨g, ρ, M, F, O, _, w, A, pr, hw, fun vs H1 F1 O1 M1 d1 A1 s1 r1 q1 => ?_⟩
    have e := call_reading (dd := []) (dvs := []) hn (fun _ => rfl) A1 (hw.mono s1) (rpl_pick r1 ix) (by rw [List.append_nil]; exact hlen _ _ _ _ q1) (by rw [List.append_nil]; exact q1) fun v H2 F2 O2 M2 d2 A2 s2 r2 q2 => kk v H2 F2 O2 M2 d2 A2 (s1.trans s2) r2 q2
    rw [List.append_nil] at e
    exact e
  · obtain ⟨vs, H1, I1, r, q1⟩ := hh
    refine ⟨I1.kIn, ?_⟩
    rw [hks]
    have r2 := vals_pick r ix
    have hl : (pick ix us).length = ps.length := by rw [← r2.length]; exact Fg.len _ _ _ _ q1
    refine wpAny_call (codeAny_mono (Fg.run X.A X.stack s1 H1 ⟨[], ks.zip us⟩ (pick ix us) (pick ix vs) Q _ hr hG I1.env0 (hb s1 us hl) r2 q1) fun r s' hq => ?_)
    cases r with
    | error e => exact tk e s' (XE.of_call I1 (fun _ _ _ h => h) hq)
    | ok fl =>
      cases fl with
      | ret u => exact I1.after hq
      | next => exact hq.elim
      | brk => exact hq.elim
      | cont => exact hq.elim
end
/-! ## slices -/
abbrev PTO := PWi → Rho → Mm → (Option Int → Mm → Prop) → Prop
def dNo : PTO := fun _ _ M q => q none M
def asIn (d : D) (k : Int → Prop) : Prop := match d with | .int i => k i | _ => False
def dPt (pe : PTE) : PTO := fun w ρ M q => pe w ρ M fun d M1 => asIn d fun i => q (some i) M1
def realP (K : PySem.W.Frag) (W : WX) (p : PTO) : L2.TO := fun σ H Q => ∃ g ρ M F O q w, Ab K g σ H ρ M F O ∧ p w ρ M q ∧ WOk K g F W w ∧ ∀ o H' F' O' M', Ab K g σ H' ρ M' F' O' → Same F F' → q o M' → Q o H'
abbrev DP (X : Cx) (W : WX) (e : Option Expr) (p : PTO) : Prop := PO X e (realP X.K W p)
theorem dp_no : DP X W none dNo := ⟨fun pins s σ H Q I ⟨g, ρ, M, F, O, q, w, A, p, hw, k⟩ => po_none.run pins s σ H Q I (k none H F O M A (Same.refl F) p)⟩
theorem dp_pt (h : DE X W e pe) : DP X W (some e) (dPt pe) := ⟨fun pins s σ H Q I ⟨g, ρ, M, F, O, q, w, A, p, hw, k⟩ => (po_some h).run pins s σ H Q I
  ⟨g, ρ, M, F, O, _, w, A, p, hw, fun v H1 F1 O1 M1 d A1 s1 r1 q1 => by
    cases d with
    | int i => exact ⟨i, r1, k (some i) H1 F1 O1 M1 A1 s1 q1⟩
    | _ => exact (show False from q1).elim⟩⟩
def cutD (l : List D) (lo hi : Option Int) : List D := (l.drop (HT.sIx l.length 0 lo)).take (HT.sIx l.length l.length hi - HT.sIx l.length 0 lo)
theorem rpl_drop {K : PySem.W.Frag} {F : Hp} : ∀ {ds : List D} {vs : List V} (i : Nat), RpL K F ds vs → RpL K F (ds.drop i) (vs.drop i)
  | [], vs, i, h => by
    have e : vs = [] := h
    subst e
    simp only [List.drop_nil]; rfl
  | d :: ds, vs, 0, h => h
  | d :: ds, vs, i + 1, h => by
    obtain ⟨v, r, rfl, h1, h2⟩ := h
    exact rpl_drop i h2
theorem rpl_take {K : PySem.W.Frag} {F : Hp} : ∀ {ds : List D} {vs : List V} (i : Nat), RpL K F ds vs → RpL K F (ds.take i) (vs.take i)
  | [], vs, i, h => by
    have e : vs = [] := h
    subst e
    simp only [List.take_nil]; rfl
  | d :: ds, vs, 0, h => rfl
  | d :: ds, vs, i + 1, h => by
    obtain ⟨v, r, rfl, h1, h2⟩ := h
    exact ⟨v, r.take i, rfl, h1, rpl_take i h2⟩
theorem rpl_cut {K : PySem.W.Frag} {F : Hp} {ds : List D} {vs : List V} (lo hi : Option Int) (h : RpL K F ds vs) : RpL K F (cutD ds lo hi) (cutV vs lo hi) := by
  unfold cutD cutV
  rw [h.len]
  exact rpl_take _ (rpl_drop _ h)
def slR (d : D) (lo hi : Option Int) (k : D → Prop) : Prop := match d with
  | .lst l => k (.lst (cutD l lo hi))
  | .tup l => k (.tup (cutD l lo hi))
  | _ => False
def dSl (pa : PTE) (plo phi : PTO) : PTE := fun w ρ M q => pa w ρ M fun d M1 => plo w ρ M1 fun l M2 => phi w ρ M2 fun h M3 => slR d l h fun z => q z M3
theorem de_sl {lo hi : Option Expr} {plo phi : PTO} {p2 : Pos} (ha : DO X W a pa) (hl : DP X W lo plo) (hh : DP X W hi phi) : DE X W (.Subscript a (.Slice lo hi none p2) pos) (dSl pa plo phi) :=
  pe_imp (pe_slice (sl_list.or sl_tupA) ha hl hh) fun σ H Q ⟨g, ρ, M, F, O, q, w, A, pr, hw, k⟩ =>
  ⟨g, ρ, M, F, O, _, w, A, pr, hw, fun v H1 F1 O1 M1 d A1 s1 r1 q1 => ⟨g, ρ, M1, F1, O1, _, w, A1, q1, hw.mono s1, fun l H2 F2 O2 M2 A2 s2 q2 => ⟨g, ρ, M2, F2, O2, _, w, A2, q2, hw.mono (s1.trans s2), fun h H3 F3 O3 M3 A3 s3 q3 => by
    have r3 := r1.mono (s2.trans s3)
    cases d with
    | lst ds =>
      obtain ⟨p, xs, e1, h1, rl⟩ := r3.lst A3
      refine .inl ⟨p, xs, e1, .inl (.inl h1), fun t ht => ?_⟩
      have sn := same_new (o := .lst (cutV xs l h)) (A3.f0 ht)
      exact k _ _ _ O3 M3 (.lst (cutD ds l h)) (A3.lay ht) (((s1.trans s2).trans s3).trans sn) ⟨t, _, rfl, upd_same, RpL.mono sn _ _ (rpl_cut l h rl)⟩ q3
    | tup ds =>
      obtain ⟨p, xs, e1, h1, rl⟩ := r3.tupF
      refine .inr ⟨p, xs, e1, same_t A3.sub h1, fun z => ?_, fun z t ht => ?_⟩
      · have ec : cutD ds l h = ds := by
          unfold cutD
          rw [rl.len, z.1, z.2, List.drop_zero, Nat.sub_zero]
          exact List.take_of_length_le (by rw [rl.len]; exact Nat.le_refl _)
        have q4 : q (.tup (cutD ds l h)) M3 := q3
        rw [ec] at q4
        exact k _ _ _ O3 M3 (.tup ds) A3 ((s1.trans s2).trans s3) ⟨p, xs, rfl, h1, rl⟩ q4
      · have sn := same_new (o := .tup (cutV xs l h)) (A3.f0 ht)
        exact k _ _ _ O3 M3 (.tup (cutD ds l h)) (A3.lay ht) (((s1.trans s2).trans s3).trans sn) ⟨t, _, rfl, .inl (.inl upd_same), RpL.mono sn _ _ (rpl_cut l h rl)⟩ q3
    | _ => exact (show False from q3).elim⟩⟩⟩
/-! ## tuple(x), list(x) -/
def fTup : F1
  | .lst l, k => k (.tup l)
  | .tup l, k => k (.tup l)
  | _, _ => False
theorem de_tupc (hg : Gl X "tuple") (hm : X.mg "tuple" = none) (ha : DO X W a pa) (he : starEach [a] X.env = (false, eval a X.env) :: starEach [] X.env := by rfl) (hpl : (backTo pos (starEach [] X.env)).any (·.1) = false := by rfl) :
    DE X W (.Call (.Name "tuple" p) [a] [] pos) (dB1 fTup pa) := de_t1 call_tuple_of (f := fTup) (fun g σ H ρ M F O x v k Q A rx h c => by
    cases x with
    | lst l =>
      obtain ⟨p, xs, e1, h1, rl⟩ := rx.lst A
      refine ⟨p, xs, by rw [e1], .inl ⟨.inl (.inl h1), fun t ht => ?_⟩⟩
      have sn := same_new (o := .tup xs) (A.f0 ht)
      exact c (.tup l) _ _ _ O (A.lay ht) sn ⟨t, _, rfl, .inl (.inl upd_same), RpL.mono sn _ _ rl⟩ h
    | tup l =>
      obtain ⟨p, xs, e1, h1, rl⟩ := rx.tupF
      exact ⟨p, xs, by rw [e1], .inr ⟨same_t A.sub h1, c (.tup l) _ H F O A (Same.refl F) ⟨p, xs, rfl, h1, rl⟩ h⟩⟩
    | _ => exact (show False from h).elim) hg hm (by decide +kernel) ha (by decide) (by decide) he hpl
/-! ## a, xs, b = e, [], c -/
theorem pure_neg {i : Int} {j : Nat} {p2 : Pos} : PE X (.UnaryOp .USub (.Constant (.int i) j p2) pos) (tC (.int (-i))) := pe_imp (pe_un un_neg pe_int) fun σ H Q h => ⟨i, rfl, h⟩
def dParL3 (i j l : Nat) (pe : PTE) (c : D) : PTS := fun w P ρ M => pe w ρ M fun d M' => P.nx (st (st (st ρ i (.val d)) j (.own [])) l (.val c)) M'
theorem ds_parL3 (i j l : Nat) {x y z : Str} {a c : Expr} {cv : V} {cd : D} {px py pz pt p2 : Pos} {kt k2 pt2} (hc : X.calm = true) (hN : X.N.Nodup) (ha : DE X W a pe) (hcst : PE X c (tC cv)) (hcr : ∀ F, Rp X.K F cd cv) (hi : X.N[i]? = some x := by rfl) (hj : X.N[j]? = some y := by rfl) (hl : X.N[l]? = some z := by rfl)
    (hij : i ≠ j := by decide) (hil : i ≠ l := by decide) (hjl : j ≠ l := by decide)
    (hx : X.env.scope.names.lookup x = some .local := by rfl) (hy : X.env.scope.names.lookup y = some .local := by rfl) (hz : X.env.scope.names.lookup z = some .local := by rfl)
    (h1 : starEach [a, .List [] p2, c] X.env = (false, eval a X.env) :: starEach [.List [] p2, c] X.env := by rfl) (h2 : starEach [.List [] p2, c] X.env = (false, eval (.List [] p2) X.env) :: starEach [c] X.env := by rfl) (h3 : starEach [c] X.env = (false, eval c X.env) :: starEach [] X.env := by rfl)
    (hw : swappedStores [.Tuple [.Name x px, .Name y py, .Name z pz] kt pt] (.Tuple [a, .List [] p2, c] k2 pt2) X.env = pure (some [x, y, z]) := by rfl)
    (hs : swapsWithSole [.Tuple [.Name x px, .Name y py, .Name z pz] kt pt] (.Tuple [a, .List [] p2, c] k2 pt2) pos.line X.env = pure false := by rfl) :
    DS X W (.Assign [.Tuple [.Name x px, .Name y py, .Name z pz] kt pt] (.Tuple [a, .List [] p2, c] k2 pt2) pos) (dParL3 i j l pe cd) :=
  ps_imp (ps_par3 hc hN hi hj hl hij hil hjl hx hy hz (pa_cons ha (pa_cons (pe_lst pa_nil) (pa_cons hcst pa_nil h3) h2) h1) hw hs) fun D σ H ⟨g, ρ, M, F, O, P, w, A, h, hw, k1, _⟩ =>
  ⟨g, ρ, M, F, O, _, w, A, h, hw, fun v H' F' O' M' d A' s r q => ⟨by show 0 ≤ sizeLine; decide, fun t ht => ⟨v, .ref t, cv, rfl,
    k1 _ _ _ M' F' _ ((((A'.laid (o := .lst []) ht).put r).putOwn upd_same (l := []) rfl (A'.f0 ht) (A'.o0 ht) (A'.g0 ht)).put (hcr F')) s q⟩⟩⟩
def dParL2 (i j : Nat) (pe : PTE) : PTS := fun w P ρ M => pe w ρ M fun d M' => P.nx (st (st ρ i (.val d)) j (.own [])) M'
theorem ds_parL2 (i j : Nat) {x y : Str} {a : Expr} {px py pt p2 : Pos} {kt k2 pt2} (hc : X.calm = true) (hN : X.N.Nodup) (ha : DE X W a pe) (hi : X.N[i]? = some x := by rfl) (hj : X.N[j]? = some y := by rfl)
    (hij : i ≠ j := by decide) (hx : X.env.scope.names.lookup x = some .local := by rfl) (hy : X.env.scope.names.lookup y = some .local := by rfl)
    (h1 : starEach [a, .List [] p2] X.env = (false, eval a X.env) :: starEach [.List [] p2] X.env := by rfl) (h2 : starEach [.List [] p2] X.env = (false, eval (.List [] p2) X.env) :: starEach [] X.env := by rfl)
    (hw : swappedStores [.Tuple [.Name x px, .Name y py] kt pt] (.Tuple [a, .List [] p2] k2 pt2) X.env = pure (some [x, y]) := by rfl)
    (hs : swapsWithSole [.Tuple [.Name x px, .Name y py] kt pt] (.Tuple [a, .List [] p2] k2 pt2) pos.line X.env = pure false := by rfl) :
    DS X W (.Assign [.Tuple [.Name x px, .Name y py] kt pt] (.Tuple [a, .List [] p2] k2 pt2) pos) (dParL2 i j pe) :=
  ps_imp (ps_par hc hN hi hj hij hx hy (pa_cons ha (pa_cons (pe_lst pa_nil) pa_nil h2) h1) hw hs) fun D σ H ⟨g, ρ, M, F, O, P, w, A, h, hw, k1, _⟩ =>
  ⟨g, ρ, M, F, O, _, w, A, h, hw, fun v H' F' O' M' d A' s r q => ⟨by show 0 ≤ sizeLine; decide, fun t ht => ⟨v, .ref t, rfl,
    k1 _ _ _ M' F' _ (((A'.laid (o := .lst []) ht).put r).putOwn upd_same (l := []) rfl (A'.f0 ht) (A'.o0 ht) (A'.g0 ht)) s q⟩⟩⟩
end
end Px

set_option Elab.async false
set_option linter.all false
set_option maxRecDepth 100000
namespace Px
open PySem PySem.Spec PyProof.Rows L2
theorem kwb_of {K : PySem.W.Frag} {x qual : Str} {st : Stmt} {f : Addr} {fd : FuncData} {ps : List Str} (ks : List Str) (ix : List Nat) (F : L2.Fun K x qual st f fd)
    (h : ∀ (kV doc pm : Value) (an : Option Addr) (cdv ct : Value) (ws : List Value), (pick ix ws).length = ps.length → bindArgs (PySem.W.fnOf x qual (defArgs st) (defBody st) (defScope st) .none kV doc pm an cdv ct) ⟨[], ks.zip ws⟩ = pure (ps.zip (pick ix ws))) : KwB fd ps ks ix := by
  obtain ⟨oc, od, kV, doc, pm, an, cdv, ct, osl, rfl, lk, hcd⟩ := F.ex
  exact fun s ws hl => .of_eq (h kV doc pm an cdv ct ws hl)
end Px

set_option Elab.async false
set_option linter.all false
set_option maxRecDepth 100000
namespace Px
open PySem PySem.Spec PyProof.Rows L2
/-! ## shifts -/
def fShl : F2
  | .int i, .int j, k => CPow i j ∧ k (.int (i * 2 ^ j.toNat))
  | _, _, _ => False
def fShr : F2
  | .int i, .int j, k => 0 ≤ j ∧ k (.int (i / 2 ^ j.toNat))
  | _, _, _ => False
section
variable {X : Cx} {W : WX} {K : PySem.W.Frag} {a b : Expr} {pa pb : PTE} {pos : Pos}
theorem opf_shl : OpF K (rI CPow fun i j => .int (i * 2 ^ j.toNat)) fShl := opf_i (h' := fun i j => .int (i * 2 ^ j.toNat)) (fun _ _ _ => rfl) fun x y k h => by
  unfold fShl at h
  split at h
  · exact ⟨_, _, rfl, rfl, h⟩
  · exact h.elim
theorem opf_shr : OpF K (rI (fun _ j => 0 ≤ j) fun i j => .int (i / 2 ^ j.toNat)) fShr := opf_i (h' := fun i j => .int (i / 2 ^ j.toNat)) (fun _ _ _ => rfl) fun x y k h => by
  unfold fShr at h
  split at h
  · exact ⟨_, _, rfl, rfl, h⟩
  · exact h.elim
theorem de_shl (ha : DO X W a pa) (hb : DO X W b pb) : DE X W (.BinOp a .LShift b pos) (dOp fShl pa pb) := de_op op_shl opf_shl ha hb
theorem de_shr (ha : DO X W a pa) (hb : DO X W b pb) : DE X W (.BinOp a .RShift b pos) (dOp fShr pa pb) := de_op op_shr opf_shr ha hb
end
/-! ## an int in a list or a tuple of ints -/
def itemsD : D → Option (List Int)
  | .lst l => intsOf l
  | .tup l => intsOf l
  | _ => none
def fInI (neg : Bool) : F2 := fun x y k => match x, itemsD y with
  | .int i, some ns => k (.bl (if neg then !decide (i ∈ ns) else decide (i ∈ ns)))
  | _, _ => False
theorem inV_ints (i : Int) (ns : List Int) : inV (.int i) (ns.map V.int) = decide (i ∈ ns) := by
  unfold inV
  induction ns with
  | nil => rfl
  | cons n r ih =>
    rw [List.map_cons, List.any_cons, ih]
    have e : eqV (.int n) (.int i) = decide (i = n) := by
      show decide (n = i) = decide (i = n)
      by_cases c : n = i
      · subst c; rfl
      · rw [decide_eq_false c, decide_eq_false (fun z => c z.symm)]
    rw [e]
    by_cases c : i = n
    · subst c; simp
    · simp [c]

theorem flat_ints (ns : List Int) : (ns.map V.int).all flatV = true := by
  rw [List.all_eq_true]
  intro x hx
  obtain ⟨n, _, rfl⟩ := List.mem_map.mp hx
  rfl
theorem opf_inI {K : PySem.W.Frag} (neg : Bool) : OpF K (rIn K neg) (fInI neg) := by
  intro g σ H ρ M F O x y v u k Q A rx ry h c
  cases x with
  | int i =>
    have fin : ∀ (p : Addr) (l : List D) (xs : List V), u = .ref p → (SqL K H p xs ∨ SqT K H p xs) → RpL K F l xs → intsOf l = itemsD y → rIn K neg v u H Q := fun p l xs eu hs rl el => by
      cases e : intsOf l with
      | none =>
        rw [e] at el
        simp only [fInI, ← el] at h
      | some ns =>
        rw [e] at el
        simp only [fInI, ← el] at h
        have e1 := intsOf_eq e
        subst e1
        have ex := rl.ints
        subst ex
        refine ⟨p, ns.map V.int, eu, hs, by rw [rx.int]; rfl, flat_ints ns, ?_⟩
        rw [rx.int, inV_ints]
        exact c (.bl (if neg then !decide (i ∈ ns) else decide (i ∈ ns))) _ H F O A (Same.refl F) rfl h
    cases y with
    | lst l =>
      obtain ⟨p, xs, e1, h1, rl⟩ := ry.lst A
      exact fin p l xs e1 (.inl (.inl (.inl h1))) rl rfl
    | tup l =>
      obtain ⟨p, xs, e1, h1, rl⟩ := ry.tupF
      exact fin p l xs e1 (.inr (same_t A.sub h1)) rl rfl
    | _ => exact (show False from h).elim
  | _ => exact (show False from h).elim
section
variable {X : Cx} {W : WX} {a b : Expr} {pa pb : PTE} {pos : Pos}
theorem de_inI (ha : DO X W a pa) (hb : DO X W b pb) (hm : behindInMarks .In b = false := by rfl) : DE X W (.Compare a [.In] [b] pos) (dOp (fInI false) pa pb) := de_cmp op_in_seq (opf_inI false) ha hb hm
theorem de_notinI (ha : DO X W a pa) (hb : DO X W b pb) (hm : behindInMarks .NotIn b = false := by rfl) : DE X W (.Compare a [.NotIn] [b] pos) (dOp (fInI true) pa pb) := de_cmp op_notIn_seq (opf_inI true) ha hb hm
theorem dt_inI (ha : DO X W a pa) (hb : DO X W b pb) (hm : behindInMarks .In b = false := by rfl) : DT X W (.Compare a [.In] [b] pos) (dTst (dOp (fInI false) pa pb)) := dt_cmp op_in_seq (opf_inI false) ha hb hm
theorem dt_notinI (ha : DO X W a pa) (hb : DO X W b pb) (hm : behindInMarks .NotIn b = false := by rfl) : DT X W (.Compare a [.NotIn] [b] pos) (dTst (dOp (fInI true) pa pb)) := dt_cmp op_notIn_seq (opf_inI true) ha hb hm
end
end Px

set_option Elab.async false
set_option linter.all false
set_option maxRecDepth 100000
set_option maxHeartbeats 4000000
namespace Px
open PySem PySem.Spec PyProof.Rows L2
/-! # sorted of a list of tuples of ints -/
def lexL : List Int → List Int → Bool
  | [], [] => false
  | [], _ :: _ => true
  | _ :: _, [] => false
  | x :: r, y :: s => if x = y then lexL r s else decide (x < y)
theorem lexL_irr : ∀ l : List Int, lexL l l = false
  | [] => rfl
  | x :: r => by unfold lexL; rw [if_pos rfl]; exact lexL_irr r
theorem lexL_asym : ∀ {a b : List Int}, lexL a b = true → lexL b a = false
  | [], [], _ => rfl
  | [], _ :: _, _ => rfl
  | _ :: _, [], h => (nomatch h)
  | x :: r, y :: s, h => by
    unfold lexL at h ⊢
    by_cases c : x = y
    · subst c
      rw [if_pos rfl] at h ⊢
      exact lexL_asym h
    · rw [if_neg c, decide_eq_true_eq] at h
      rw [if_neg (fun z => c z.symm)]
      exact decide_eq_false (by omega)
theorem lexL_neg : ∀ {a b c : List Int}, lexL a b = false → lexL b c = false → lexL a c = false
  | _, [], [], h, _ => h
  | [], [], _ :: _, _, h2 => nomatch h2
  | _ :: _, [], _ :: _, _, h2 => nomatch h2
  | [], _ :: _, _, h1, _ => nomatch h1
  | _ :: _, _ :: _, [], _, _ => rfl
  | x :: r, y :: s, z :: t, h1, h2 => by
    unfold lexL at h1 h2 ⊢
    by_cases c1 : x = y
    · subst c1
      rw [if_pos rfl] at h1
      by_cases c2 : x = z
      · subst c2
        rw [if_pos rfl] at h2 ⊢
        exact lexL_neg h1 h2
      · rw [if_neg c2] at h2 ⊢
        exact h2
    · rw [if_neg c1, decide_eq_false_iff_not] at h1
      by_cases c2 : y = z
      · subst c2
        rw [if_neg c1]
        exact decide_eq_false h1
      · rw [if_neg c2, decide_eq_false_iff_not] at h2
        rw [if_neg (by omega)]
        exact decide_eq_false (by omega)
theorem swo_lexL (k : Value → List Int) : SrtO.Swo fun v u => lexL (k v) (k u) := ⟨fun x y h => lexL_asym h, fun x y z h1 h2 => lexL_neg h2 h1⟩

section
variable {prog : Program} {w : World} {A : Around} {s : Shared}
theorem kat_ints {b fin : Bool} {Q : Bool → Shared → Prop} : ∀ {xs ys : List Value} {ms ns : List Int} (i : Nat), IntsAre xs ms → IntsAre ys ns → fin = decide (xs.length < ys.length) → Q (lexL ms ns) s → PySem.W.KatLex prog w A b fin Q (xs.zip ys) i s
  | _, _, _, _, i, .nil, .nil, hf, q => by
    subst hf
    exact q
  | _, _, _, _, i, .nil, .cons _ _ _, hf, q => by
    subst hf
    refine PySem.W.kat_nil ?_
    rw [decide_eq_true (by simp)]
    exact q
  | _, _, _, _, i, .cons _ _ _, .nil, hf, q => by
    subst hf
    refine PySem.W.kat_nil ?_
    rw [decide_eq_false (by simp)]
    exact q
  | _, _, _, _, i, .cons x t hx, .cons y u hy, hf, q => by
    rename_i xs' ms' ys' ns'
    refine PySem.W.kat_cons (SeqAt.EqAt.int_int x t y u prog w _ _ ?_)
    refine PySem.W.kat_go (fun e1 => ?_) (fun e1 => ?_)
    · have ex : x = y := by simpa using e1
      refine PySem.W.kat_yes (kat_ints (i + 1) hx hy (by rw [hf, List.length_cons, List.length_cons]; simp) ?_)
      have q' : Q (if x = y then lexL ms' ns' else decide (x < y)) s := q
      rw [if_pos ex] at q'
      exact q'
    · have ex : ¬ x = y := by simpa using e1
      have q' : Q (if x = y then lexL ms' ns' else decide (x < y)) s := q
      rw [if_neg ex] at q'
      exact PySem.W.kat_no (TS.oneLt_ints _ q')
theorem ints_cmp {vs : List Value} {k : Value → List Int} {b : Bool} (hp : ∀ v ∈ vs, TS.TupInts s.heap v (k v)) : SrtO.Cmp prog w A s (tuples' b) (fun p => p.1 ∈ vs) (SrtO.lt2 fun v u => lexL (k v) (k u)) := by
  intro p q hm hm'
  obtain ⟨a, xs, e1, ⟨o, ho, hc, n, hd⟩, hx⟩ := hp _ hm
  obtain ⟨a', ys, e2, ⟨o', ho', hc', n', hd'⟩, hy⟩ := hp _ hm'
  show wpAny (model prog w) A (keyLt' (tuples' b) p.1 q.1) (fun r s' => s' = s ∧ r = lexL (k p.1) (k q.1)) (fun _ _ => False) s
  rw [e1, e2]
  refine PySem.W.kat_lt ho hd ho' hd' (kat_ints 0 hx hy (by simp) ⟨rfl, ?_⟩)
  rw [← e1, ← e2]
theorem ints_firsts {h : Heap} {k : Value → List Int} : ∀ vs : List Value, (∀ v ∈ vs, TS.TupInts h v (k v) ∧ k v ≠ []) → ∃ fs, PySem.W.KatTups h vs fs ∧ fs.length = vs.length ∧ ∀ f, f ∈ fs → ∃ n t, f = Value.int n t
  | [], _ => ⟨[], PySem.W.KatTups.nil, rfl, fun f hf => (nomatch hf)⟩
  | v :: vs, x => by
    obtain ⟨fs, kt, hl, hi⟩ := ints_firsts (k := k) vs fun u hu => x u (List.mem_cons_of_mem _ hu)
    obtain ⟨⟨a, xs, ev, ⟨o, ho, hc, n, hdt⟩, i⟩, hn⟩ := x v (List.mem_cons_self ..)
    obtain ⟨y, ys, e⟩ : ∃ y ys, xs.toList = y :: ys := by
      cases q : xs.toList with
      | nil =>
        rw [q] at i
        have l := i.length
        rw [List.length_nil] at l
        exact absurd (List.length_eq_zero_iff.mp l.symm) hn
      | cons y ys => exact ⟨y, ys, rfl⟩
    obtain ⟨m, t, hy⟩ := i.all y (by rw [e]; exact List.mem_cons_self ..)
    subst ev
    refine ⟨y :: fs, PySem.W.KatTups.cons ho hc hdt ?_ kt, by simp [hl], ?_⟩
    · have z := congrArg (fun l : List Value => l[0]?) e
      simpa using z
    · intro f hf
      rcases List.mem_cons.mp hf with rfl | hf
      · exact ⟨m, t, hy⟩
      · exact hi f hf
theorem ints_sortable {a : Addr} {vs : List Value} {k : Value → List Int} (h0 : 0 < vs.length) (hp : ∀ v ∈ vs, TS.TupInts s.heap v (k v) ∧ k v ≠ []) (ha : ∀ o, s.heap.get? a = some o → o.cls ≠ .type "tuple") : SrtO.SortableO prog w A s a vs fun v u => lexL (k v) (k u) := by
  intro h' keep
  have hp' : ∀ v ∈ vs, TS.TupInts h' v (k v) ∧ k v ≠ [] := fun v hm => ⟨(hp v hm).1.keeps fun b o e c => keep b o (fun z => by subst z; exact ha o e c) e, (hp v hm).2⟩
  obtain ⟨fs, h1, h2, h3⟩ := ints_firsts vs hp'
  refine ⟨tuples' true, fun Q E hq => ?_, ints_cmp fun v hm => (hp' v hm).1⟩
  refine PySem.W.kat_kind (T := .type "int") h1 (by omega) (fun f hm => ?_) (by rfl) ?_
  · obtain ⟨x, t, rfl⟩ := h3 f hm
    exact PySem.W.Looks.now
  · have e : (Value.type "int" != Value.type "tuple") = true := by first | decide +kernel | rfl | decide
    rw [e]
    exact hq
/-- sorted(l), l a list of tuples of ints, none of them empty -/
theorem sorted_ints {E : Value → Shared → Prop} {l : Addr} {vs : List Value} {k : Value → List Int} {Q : Value → Shared → Prop} (hl : s.heap.IsList l vs.toArray) (hz : vs.length ≤ sizeLine) (hp : ∀ v ∈ vs, TS.TupInts s.heap v (k v) ∧ k v ≠ [])
    (h : ∀ (h' : Heap) (d : Addr) (out : List Value), SrtO.Srtd (fun v u => lexL (k v) (k u)) out → SrtO.Stb (fun v u => lexL (k v) (k u)) out vs → (∀ b o, s.heap.get? b = some o → h'.get? b = some o) → s.heap.objs.size ≤ d → (∃ n, h'.get? d = some (seqObj "list" out.toArray n)) → Q (.ref d) { s with heap := h' }) :
    wpAny (model prog w) A (call (.builtin "sorted") [.ref l]) Q E s := by
  refine SrtO.sorted_ord (swo_lexL k) hl hz (fun h2 h₁ a ha kk => ?_) fun out hs hb => ?_
  · refine ints_sortable (s := { s with heap := h₁ }) (by omega) (fun v hm => ⟨(hp v hm).1.keeps fun b o e _ => (kk b o e).2, (hp v hm).2⟩) fun o e => ?_
    have e' : some o = some (seqObj "list" vs.toArray 0) := e.symm.trans ha
    cases e'
    intro c
    exact absurd (Value.type.inj c) (by decide)
  · exact h _ _ out hs hb (fun b o e => sortedAll_old e) (Nat.le_succ _) (sortedAll_at s.heap vs out.toArray)
end
end Px

set_option Elab.async false
set_option linter.all false
set_option maxRecDepth 100000
set_option maxHeartbeats 4000000
namespace Px
open PySem PySem.Spec PyProof.Rows L2
theorem lexLt_lexL : ∀ a b : List Int, HT.lexLt a b = lexL a b
  | [], [] => rfl
  | [], _ :: _ => rfl
  | _ :: _, [] => rfl
  | x :: r, y :: s => by
    rw [HT.lexLt_cons, lexLt_lexL r s]
    rfl
section
variable {prog : Program} {w : World} {A : Around} {s : Shared} {E : Value → Shared → Prop}
theorem one_tups {p q : Value} {ns ms : List Int} {Q : Bool → Shared → Prop} (hp : TS.TupInts s.heap p ns) (hq : TS.TupInts s.heap q ms) (hu : A.units < cLine) (h : Q (lexL ns ms) s) : wpAny (model prog w) A (keyLt' oneType' p q) Q E s := by
  obtain ⟨l, xs, rfl, hl, hx⟩ := hp
  obtain ⟨b, ys, rfl, hb, hy⟩ := hq
  obtain ⟨⟨cls, dd, data, sl⟩, ho, hc, n, hd⟩ := id hl
  obtain ⟨⟨cls2, dd2, data2, sl2⟩, ho2, hc2, n2, hd2⟩ := id hb
  simp only at hc hd hc2 hd2
  subst hc hd hc2 hd2
  rw [keyLt'_oneType, oneLt'_eq]
  simp only [if_true]
  refine wpAny_bind (wpAny_cRoomFor_or (.inr hu) ?_)
  refine wpAny_bind (wpAny_callSpecialIfBound?_slot (T := "tuple") ⟨_, ho, rfl⟩ PySem.F.slot_tuple_lt (call_meets PySem.F.slot_tuple_lt ⟨_, ho, rfl⟩ PySem.F.entry_tuple_lt (PySem.F.args_tuple_lt_2 _ _) (HT.tuple_lt_ints l b xs ys n n2 dd dd2 sl sl2 ns ms hx hy) ⟨ho, ho2, ?_⟩))
  rw [lexLt_lexL]
  exact wpAny_truthy_bool h
end
end Px

set_option Elab.async false
set_option linter.all false
set_option maxRecDepth 100000
set_option maxHeartbeats 4000000
namespace Px
open PySem PySem.Spec PyProof.Rows L2
section
variable {M : Model} {A : Around} {E : Value → Shared → Prop} {s : Shared}
theorem firsts_any {k : Value → List Int} : ∀ (vs : List Value) {Q : List (Option Value) → Shared → Prop}, (∀ v ∈ vs, TS.TupInts s.heap v (k v)) → (∀ os : List (Option Value), os.length = vs.length → (∀ v r, vs = v :: r → k v = [] → ∃ r', os = none :: r') → Q os s) → wpAny M A (vs.mapM firstOfTuple') Q E s
  | [], Q, _, h => by
    rw [List.mapM_nil]
    exact wpAny_pure (h [] rfl fun _ _ e => (nomatch e))
  | v :: vs, Q, x, h => by
    obtain ⟨a, xs, ev, ⟨o, ho, hc, n, hd⟩, i⟩ := x v List.mem_cons_self
    rw [List.mapM_cons]
    refine wpAny_bind ?_
    rw [PySem.W.kas_first_eq, ev]
    refine wpAny_bind (PySem.W.Looks.here (show PySem.W.Looks M s.heap (typeOf (.ref a)) o.cls from (PySem.W.Looks.ld ho).andThen .now) ?_)
    rw [hc, if_neg (by first | decide | simp)]
    refine wpAny_bind (listItems_at ho hd (wpAny_pure ?_))
    refine wpAny_bind (firsts_any vs (k := k) (fun u hu => x u (List.mem_cons_of_mem _ hu)) fun os hl _ => wpAny_pure (h (xs[0]? :: os) (by simp [hl]) fun v' r e hk => ?_))
    cases e
    rw [hk] at i
    have e0 : xs.toList = [] := by
      have l := i.length
      rw [List.length_nil] at l
      exact List.length_eq_zero_iff.mp l
    have e1 : xs[0]? = none := by
      have e2 : xs.size = 0 := by simpa using congrArg List.length e0
      exact Array.getElem?_eq_none (by omega)
    exact ⟨os, by rw [e1]⟩
theorem kind_empty {vs : List Value} {k : Value → List Int} {Q : SortKind → Shared → Prop} {v0 : Value} {r0 : List Value} (ev : vs = v0 :: r0) (h0 : k v0 = []) (hp : ∀ v ∈ vs, TS.TupInts s.heap v (k v)) (h : Q oneType' s) : wpAny M A (keyKind' vs.toArray) Q E s := by
  rw [keyKind'_eq, List.mapM_toArray, map_eq_pure_bind]
  refine wpAny_bind (wpAny_bind (firsts_any vs hp fun os hl hf => wpAny_pure ?_))
  obtain ⟨r', eo⟩ := hf v0 r0 ev h0
  subst eo
  rw [if_neg (by simp), if_neg (by simp)]
  rw [oneTypeOnly'_eq, List.mapM_toArray, map_eq_pure_bind]
  refine wpAny_bind (wpAny_bind (wpAny_bind (PySem.W.kas_mapM (r := Value.type "tuple") _ (fun v hv Q' hq => ?_) (wpAny_pure ?_))))
  · obtain ⟨a, xs, e, ⟨o, ho, hc, n, hd⟩, i⟩ := hp v hv
    rw [e]
    refine PySem.W.Looks.here (show PySem.W.Looks M s.heap (typeOf (.ref a)) o.cls from (PySem.W.Looks.ld ho).andThen .now) ?_
    rw [hc]
    exact hq
  · subst ev
    have hall : ((List.map (fun _ => Value.type "tuple") (v0 :: r0)).toArray.all fun x => x == Value.type "tuple") = true := by
      simp only [List.all_toArray, List.all_map, List.all_eq_true]
      intro _ _
      first | rfl | decide
    have h0 : (List.map (fun _ => Value.type "tuple") (v0 :: r0)).toArray[0]? = some (Value.type "tuple") := by simp
    rw [h0]
    simp only [hall, if_true]
    exact wpAny_pure (wpAny_pure h)
end
section
variable {prog : Program} {w : World} {A : Around} {s : Shared} {E : Value → Shared → Prop}
theorem empty_sortable {a : Addr} {vs : List Value} {k : Value → List Int} {v0 : Value} {r0 : List Value} (ev : vs = v0 :: r0) (h0 : k v0 = []) (hu : A.units < cLine) (hp : ∀ v ∈ vs, TS.TupInts s.heap v (k v)) (ha : ∀ o, s.heap.get? a = some o → o.cls ≠ .type "tuple") : SrtO.SortableO prog w A s a vs fun v u => lexL (k v) (k u) := by
  intro h' keep
  have hp' : ∀ v ∈ vs, TS.TupInts h' v (k v) := fun v hm => (hp v hm).keeps fun b o e c => keep b o (fun z => by subst z; exact ha o e c) e
  refine ⟨oneType', fun Q E hq => kind_empty (s := { s with heap := h' }) ev h0 hp' hq, fun p q hm hm' => ?_⟩
  exact one_tups (s := { s with heap := h' }) (hp' _ hm) (hp' _ hm') hu ⟨rfl, rfl⟩
end
end Px

set_option Elab.async false
set_option linter.all false
set_option maxRecDepth 100000
namespace Px
open PySem PySem.Spec PyProof.Rows L2
section
variable {prog : Program} {w : World} {A : Around} {s : Shared} {E : Value → Shared → Prop}
/-- sorted(l), l a list of tuples of ints, none of them empty or the first one empty -/
theorem sorted_tups {l : Addr} {vs : List Value} {k : Value → List Int} {Q : Value → Shared → Prop} (hu : A.in1.in1.units < cLine) (hl : s.heap.IsList l vs.toArray) (hz : vs.length ≤ sizeLine) (hp : ∀ v ∈ vs, TS.TupInts s.heap v (k v))
    (hk : (∀ v ∈ vs, k v ≠ []) ∨ ∃ v0 r0, vs = v0 :: r0 ∧ k v0 = [])
    (h : ∀ (h' : Heap) (d : Addr) (out : List Value), SrtO.Srtd (fun v u => lexL (k v) (k u)) out → SrtO.Stb (fun v u => lexL (k v) (k u)) out vs → (∀ b o, s.heap.get? b = some o → h'.get? b = some o) → s.heap.objs.size ≤ d → (∃ n, h'.get? d = some (seqObj "list" out.toArray n)) → Q (.ref d) { s with heap := h' }) :
    wpAny (model prog w) A (call (.builtin "sorted") [.ref l]) Q E s := by
  refine SrtO.sorted_ord (swo_lexL k) hl hz (fun h2 h₁ a ha kk => ?_) fun out hs hb => ?_
  · have hp' : ∀ v ∈ vs, TS.TupInts h₁ v (k v) := fun v hm => (hp v hm).keeps fun b o e _ => (kk b o e).2
    have hc : ∀ o, ({ s with heap := h₁ } : Shared).heap.get? a = some o → o.cls ≠ .type "tuple" := fun o e => by
      have e' : some o = some (seqObj "list" vs.toArray 0) := e.symm.trans ha
      cases e'
      intro c
      exact absurd (Value.type.inj c) (by decide)
    rcases hk with hk | ⟨v0, r0, ev, h0⟩
    · exact ints_sortable (s := { s with heap := h₁ }) (by omega) (fun v hm => ⟨hp' v hm, hk v hm⟩) hc
    · exact empty_sortable (s := { s with heap := h₁ }) ev h0 hu hp' hc
  · exact h _ _ out hs hb (fun b o e => sortedAll_old e) (Nat.le_succ _) (sortedAll_at s.heap vs out.toArray)
end

def rSortedI (K : PySem.W.Frag) : List V → Hp → VK → Prop := fun vs H Q => ∃ (a : Addr) (xs : List V) (k : V → List Int), vs = [V.ref a] ∧ SqL K H a xs ∧ (∀ x ∈ xs, ∃ t, x = V.ref t ∧ SqT K H t ((k x).map V.int)) ∧
  ((∀ x ∈ xs, k x ≠ []) ∨ ∃ x0 r0, xs = x0 :: r0 ∧ k x0 = []) ∧ ∀ ys p, SrtO.Srtd (fun x y => lexL (k x) (k y)) ys → ys.Perm xs → H p = none → Q (.ref p) (upd H p (.lst ys))
theorem swo_lexV (k : V → List Int) : SrtO.Swo fun v u => lexL (k v) (k u) := ⟨fun x y h => lexL_asym h, fun x y z h1 h2 => lexL_neg h2 h1⟩
section
variable {X : Cx}
theorem cr_sortedI (hu : X.A.in1.in1.units < cLine) : CallR X (.builtin "sorted") (rSortedI X.K) := by
  intro pins s σ H vs us Q I r h
  obtain ⟨a, xs, k, rfl, hs, hx, hk, q⟩ := h
  obtain ⟨its, rv, hl, hz⟩ := I.list hs
  obtain ⟨u, rfl, ru⟩ := vals1 r
  obtain rfl : u = Value.ref a := ru
  obtain ⟨e1, e2⟩ := refs_back rv fun x m => by
    obtain ⟨t, e, _⟩ := hx x m
    exact ⟨t, e⟩
  refine sorted_tups (k := fun u => k (backV u)) hu hl.isList (by rw [← rv.length]; exact hz) (fun v hv => ?_) ?_ fun h' d out h1 h2 kp hd hn => ?_
  · obtain ⟨t, rfl⟩ := e2 v hv
    have hm : V.ref t ∈ xs := by rw [e1]; exact List.mem_map.mpr ⟨_, hv, rfl⟩
    obtain ⟨t', e, ht⟩ := hx _ hm
    cases e
    obtain ⟨its2, r2, pt, _⟩ := I.tuple ht
    have ia := intsAre_of r2
    exact ⟨t, its2.toArray, rfl, pt, (show IntsAre its2 (k (V.ref t)) from ia)⟩
  · rcases hk with hk | ⟨x0, r0, ex, h0⟩
    · refine .inl fun v hv => hk _ ?_
      rw [e1]; exact List.mem_map.mpr ⟨_, hv, rfl⟩
    · rw [e1] at ex
      cases its with
      | nil => exact nomatch ex
      | cons v r =>
        injection ex with ex _
        exact .inr ⟨v, r, rfl, by rw [ex]; exact h0⟩
  · have h3 : ∀ u ∈ out, ∃ a, u = Value.ref a := fun u hu => e2 u (h2.perm.mem_iff.mp hu)
    obtain ⟨n, hn⟩ := hn
    have hb : (out.map backV).Perm xs := by
      rw [e1]
      exact h2.perm.map backV
    refine ⟨.ref d, upd H d (.lst (out.map backV)), I.laid (t' := s.toks) kp hd ⟨?_, out, n, vals_back h3, hn⟩, rfl, q _ d (SrtO.srtd_map h1) hb (I.hok.fresh hd)⟩
    rw [hb.length_eq]
    exact hz
end
end Px

set_option Elab.async false
set_option linter.all false
set_option maxRecDepth 100000
namespace Px
open PySem PySem.Spec PyProof.Rows L2
def TupsV (K : PySem.W.Frag) (H : Hp) : List V → List (List Int) → Prop
  | [], [] => True
  | x :: xs, n :: ns => (∃ t, x = .ref t ∧ SqT K H t (n.map V.int)) ∧ TupsV K H xs ns
  | _, _ => False
def rSortedQ (K : PySem.W.Frag) : List V → Hp → VK → Prop := fun vs H Q => ∃ (F : Hp) (a : Addr) (xs : List V) (nss : List (List Int)), Same F H ∧ vs = [V.ref a] ∧ SqL K H a xs ∧ TupsV K F xs nss ∧ ((∀ n ∈ nss, n ≠ []) ∨ ∃ r, nss = [] :: r) ∧
  ∀ ys mss p, TupsV K F ys mss → mss.Pairwise (fun x y => lexL y x = false) → mss.Perm nss → H p = none → Q (.ref p) (upd H p (.lst ys))
theorem int_map_inj : ∀ {a b : List Int}, a.map V.int = b.map V.int → a = b
  | [], [], _ => rfl
  | [], _ :: _, h => (nomatch h)
  | _ :: _, [], h => (nomatch h)
  | x :: r, y :: s, h => by
    injection h with h1 h2
    rw [V.int.inj h1, int_map_inj h2]
open Classical in
noncomputable def kOf (K : PySem.W.Frag) (H : Hp) (x : V) : List Int := if h : ∃ ns t, x = V.ref t ∧ SqT K H t (List.map V.int ns) then h.choose else []
section
variable {X : Cx} {pins : List (Addr × Obj)} {σ : L2.St} {H F : Hp} {s : Shared}
theorem kOf_is (I : Inv X pins σ H s) (sm : Same F H) {x : V} {ns : List Int} {t : Addr} (e : x = .ref t) (h : SqT X.K F t (ns.map V.int)) : kOf X.K F x = ns := by
  have hx : ∃ ns t, x = V.ref t ∧ SqT X.K F t (List.map V.int ns) := ⟨ns, t, e, h⟩
  unfold kOf
  rw [dif_pos hx]
  obtain ⟨t', e', h'⟩ := hx.choose_spec
  rw [e] at e'
  cases e'
  exact int_map_inj (I.tuple_inj (same_t sm h') (same_t sm h))
theorem kOf_all (I : Inv X pins σ H s) (sm : Same F H) : ∀ {xs : List V} {nss : List (List Int)}, TupsV X.K F xs nss → xs.map (kOf X.K F) = nss ∧ ∀ x ∈ xs, ∃ t, x = .ref t ∧ SqT X.K F t ((kOf X.K F x).map V.int)
  | [], [], _ => ⟨rfl, fun _ h => (nomatch h)⟩
  | [], _ :: _, h => h.elim
  | _ :: _, [], h => h.elim
  | x :: xs, n :: ns, ⟨⟨t, e, h1⟩, h2⟩ => by
    obtain ⟨a1, a2⟩ := kOf_all I sm h2
    have ek := kOf_is I sm e h1
    refine ⟨by rw [List.map_cons, a1, ek], fun y hy => ?_⟩
    rcases List.mem_cons.mp hy with rfl | hy
    · exact ⟨t, e, by rw [ek]; exact h1⟩
    · exact a2 y hy
theorem tupsV_map {K : PySem.W.Frag} {H : Hp} {k : V → List Int} : ∀ {ys : List V}, (∀ x ∈ ys, ∃ t, x = .ref t ∧ SqT K H t ((k x).map V.int)) → TupsV K H ys (ys.map k)
  | [], _ => trivial
  | y :: ys, h => ⟨h y List.mem_cons_self, tupsV_map fun x hx => h x (List.mem_cons_of_mem _ hx)⟩
theorem cr_sortedQ (hu : X.A.in1.in1.units < cLine) : CallR X (.builtin "sorted") (rSortedQ X.K) := by
  intro pins s σ H vs us Q I r h
  obtain ⟨F, a, xs, nss, sm, e, hs, ht, hk, q⟩ := h
  obtain ⟨k1, k2⟩ := kOf_all I sm ht
  refine cr_sortedI hu pins s σ H vs us Q I r ⟨a, xs, kOf X.K F, e, hs, fun x hx => let ⟨t, e, h⟩ := k2 x hx; ⟨t, e, same_t sm h⟩, ?_, fun ys p h1 h2 hp => ?_⟩
  · rcases hk with hk | ⟨r, er⟩
    · exact .inl fun x hx => hk _ (by rw [← k1]; exact List.mem_map.mpr ⟨x, hx, rfl⟩)
    · rw [er] at k1
      cases xs with
      | nil => exact nomatch k1
      | cons x xr =>
        injection k1 with k1 _
        exact .inr ⟨x, xr, rfl, k1⟩
  · refine q ys (ys.map (kOf X.K F)) p (tupsV_map fun x hx => k2 x (h2.mem_iff.mp hx)) (List.pairwise_map.mpr h1) ?_ hp
    rw [← k1]
    exact h2.map _
end

theorem hu_in2 {A : Around} {k : Nat} (hr : Room k A) : A.in1.in1.units < cLine := by
  show A.units + 1 + 1 < cLine
  have := hr.units
  omega
/-! ## sorted, over plain data -/
abbrev tupI (ns : List Int) : D := .tup (ns.map .int)
def fSorted : G1 := fun x k => ∃ nss : List (List Int), x = .lst (nss.map tupI) ∧ ((∀ n ∈ nss, n ≠ []) ∨ ∃ r, nss = [] :: r) ∧ ∀ mss : List (List Int), mss.Pairwise (fun x y => lexL y x = false) → mss.Perm nss → k (mss.map tupI)
theorem tupsV_of {K : PySem.W.Frag} {F : Hp} : ∀ {nss : List (List Int)} {xs : List V}, RpL K F (nss.map tupI) xs → TupsV K F xs nss
  | [], xs, h => by
    have e : xs = [] := h
    subst e; trivial
  | n :: ns, xs, h => by
    obtain ⟨v, r, rfl, ⟨a, ys, e, hs, rl⟩, h2⟩ := h
    have ey := rl.ints
    subst ey
    exact ⟨⟨a, e, hs⟩, tupsV_of h2⟩
theorem rpl_tups {K : PySem.W.Frag} {F : Hp} : ∀ {xs : List V} {nss : List (List Int)}, TupsV K F xs nss → RpL K F (nss.map tupI) xs
  | [], [], _ => rfl
  | [], _ :: _, h => h.elim
  | _ :: _, [], h => h.elim
  | x :: xs, n :: ns, ⟨⟨t, e, h1⟩, h2⟩ => ⟨x, xs, rfl, ⟨t, n.map V.int, e, h1, RpL.of_ints n⟩, rpl_tups h2⟩
theorem bg_sorted {K : PySem.W.Frag} : BG1 K (rSortedQ K) fSorted := by
  intro g σ H ρ M F O x v k Q A rx h c
  obtain ⟨nss, rfl, hk, hq⟩ := h
  obtain ⟨a, xs, e, hp, rl⟩ := rx.lst A
  exact ⟨F, a, xs, nss, A.sub, by rw [e], .inl (.inl hp), tupsV_of rl, hk, fun ys mss p ht h1 h2 hn => c (mss.map tupI) p ys hn (rpl_tups ht) (hq mss h1 h2)⟩
section
variable {X : Cx} {W : WX} {a : Expr} {pa : PTE} {p pos : Pos}
theorem dl_sorted (hu : X.A.in1.in1.units < cLine) (hg : Gl X "sorted") (hm : X.mg "sorted" = none) (ha : DO X W a pa) (he : starEach [a] X.env = (false, eval a X.env) :: starEach [] X.env := by rfl) (hpl : (backTo pos (starEach [] X.env)).any (·.1) = false := by rfl) :
    DL X W (.Call (.Name "sorted" p) [a] [] pos) (dG1 fSorted pa) := dl_b1 (cr_sortedQ hu) bg_sorted hg hm (by decide +kernel) ha (by decide) (by decide) he hpl
end
end Px

set_option Elab.async false
set_option linter.all false
set_option maxRecDepth 100000
namespace Px
open PySem PySem.Spec PyProof.Rows L2

/-! # the program's defs over plain data: speeds -/
/-- where the error classes stand -/
structure Cl where
  (BadSpeed BadHalf BadNumber BadStretch BadDoubt : Addr)
def isI : D → Bool
  | .int _ => true
  | _ => false
def plain (d : D) : Bool := (tyD d).isSome
def parts (d : D) : Bool := match d with | .tup l => l.all plain | _ => true
def btwD (d : D) (lo hi : Int) : Bool := match d with | .int i => decide (lo ≤ i) && decide (i ≤ hi) | _ => false
/-- not too great to be reckoned with -/
def Bd (i : Int) : Prop := i.natAbs < 2 ^ 8000
theorem Bd.div {i : Int} (h0 : 0 < i) (h : Bd i) (j : Int) : CDivW j i := ⟨h0, Nat.lt_trans (PySem.Flt.log2_lt_of (by decide) h) (by decide)⟩
theorem Bd.mul {i j : Int} (h : Bd i) (h' : Bd j) : CMulX i j := mulx_ok h h' (by decide)
theorem Bd.le {i j : Int} (h : Bd j) (h0 : 0 ≤ i) (h1 : i ≤ j) : Bd i := Nat.lt_of_le_of_lt (by omega) h
theorem Bd.small {i : Int} (h0 : -(2 ^ 200) ≤ i) (h1 : i ≤ 2 ^ 200) : Bd i := by
  have e : i.natAbs ≤ 2 ^ 200 := by omega
  exact Nat.lt_of_le_of_lt e (Nat.pow_lt_pow_right (by decide) (by decide))
theorem cmul_of {i j : Int} {a b : Nat} (ha : i.natAbs < 2 ^ a) (hb : j.natAbs < 2 ^ b) (h : a + b ≤ 134217728) : CMulX i j := mulx_ok ha hb h
def g0 (a b : Int) : Int := (Int.gcd a b : Int)
/-- a / b in lowest terms -/
def spd (a b : Int) : D := .tup [.int (a / g0 a b), .int (b / g0 a b)]
/-- the distance of t to the nearest multiple of s -/
def near (s t : Int) : Int := if s - t % s < t % s then s - t % s else t % s
def foldD (h t b : Int) : D := spd (near (2 * h * b) t) b
def isSpD : D → Bool
  | .tup [.int a, .int b] => decide (0 ≤ a) && (decide (1 ≤ b) && decide (g0 a b = 1))
  | _ => false

def sp_is_integer (C : Cl) : PSp := fun ds M q _ => ar1 ds fun d => plain d = true ∧ q (.bl (isI d)) M
def sp_is_between (C : Cl) : PSp := fun ds M q _ => ar3 ds fun d a b => plain d = true ∧ asI a fun lo => asI b fun hi => q (.bl (btwD d lo hi)) M
def sp_divisor (C : Cl) : PSp := fun ds M q _ => ar2 ds fun a b => asI a fun x => asI b fun y => 0 ≤ x ∧ 0 ≤ y ∧ q (.int (g0 x y)) M
def sp_lowest (C : Cl) : PSp := fun ds M q _ => ar2 ds fun a b => asI a fun x => asI b fun y => 0 ≤ x ∧ 0 < y ∧ Bd y ∧ q (spd x y) M
def sp_is_speed (C : Cl) : PSp := fun ds M q _ => ar1 ds fun d => plain d = true ∧ parts d = true ∧ q (.bl (isSpD d)) M
def sp_need_speed (C : Cl) : PSp := fun ds M q e => ar1 ds fun d => plain d = true ∧ parts d = true ∧ if isSpD d = true then q .non M else e (.ref C.BadSpeed) [] M
def sp_is_half (C : Cl) : PSp := fun ds M q _ => ar1 ds fun d => plain d = true ∧ q (.bl (btwD d 1 1000)) M
def sp_folded (C : Cl) : PSp := fun ds M q _ => ar3 ds fun h t b => asI h fun h => asI t fun t => asI b fun b => (0 < h ∧ 0 ≤ t ∧ 0 < b) ∧ (h ≤ 2 ^ 1000 ∧ b ≤ 2 ^ 1000) ∧ q (foldD h t b) M
def seenD (h s : D) (k : D → Prop) : Prop := match h, s with | .int h, .tup [.int a, .int b] => b ≤ 2 ^ 1000 ∧ ∀ d, d = foldD h a b → k d | _, _ => False
def sp_seen (C : Cl) : PSp := fun ds M q e => ar2 ds fun h s => (plain h = true ∧ plain s = true ∧ parts s = true) ∧
  if btwD h 1 1000 = true then (if isSpD s = true then seenD h s fun d => q d M else e (.ref C.BadSpeed) [] M) else e (.ref C.BadHalf) [] M

/-! ## the readings -/
def rd_is_integer (C : Cl) : PTS := (dRet (dAndV (dB1 (fIsi "int") (dVar 0)) (dNotV (dB1 (fIsi "bool") (dVar 0)))))
def rd_is_between (C : Cl) : PTS := (dRet (dAndV (dCall (sp_is_integer C) [] (dCons (dVar 0) dNil)) (dChain fLe fLe (dVar 1) (dVar 0) (dVar 2))))
def rd_divisor (C : Cl) : PTS := (dSeq (dWhile (dTst (dOp fGt (dVar 1) (dC (.int 0)))) (dPar 0 1 (dCons (dVar 1) (dCons (dOp fMod (dVar 0) (dVar 1)) dNil)))) (dRet (dVar 0)))
def rd_is_speed (C : Cl) : PTS := (dSeq (dIfS (dOr (dNot (dTst (dB1 (fIsi "tuple") (dVar 0)))) (dOr (dTst (dOp fNe (dB1 fLen (dVar 0)) (dC (.int 2)))) (dNot (dTst (dB1 fAll (dL (dComp [1] (iT (dVar 0)) (gNm 1) dYes (dCall (sp_is_integer C) [] (dCons (dVar 1) dNil))))))))) (dRet (dC (.bl false))) dNext)
    (dRet (dAndV (dOp fGe (dOp fIx (dVar 0) (dC (.int 0))) (dC (.int 0))) (dAndV (dOp fGe (dOp fIx (dVar 0) (dC (.int 1))) (dC (.int 1))) (dOp fEq (dCall (sp_divisor C) [] (dCons (dOp fIx (dVar 0) (dC (.int 0))) (dCons (dOp fIx (dVar 0) (dC (.int 1))) dNil))) (dC (.int 1)))))))
def rd_lowest (C : Cl) : PTS := (dSeq (dSet 2 (dCall (sp_divisor C) [] (dCons (dVar 0) (dCons (dVar 1) dNil)))) (dRet (dTup (dCons (dOp fDiv (dVar 0) (dVar 2)) (dCons (dOp fDiv (dVar 1) (dVar 2)) dNil)))))

theorem sh_is_integer (C : Cl) : Shows (sp_is_integer C) 1 (rd_is_integer C) := by
  intro ds M q e h
  obtain ⟨d, rfl, hp, hq⟩ := ar1_of h
  cases d <;> first
    | exact ⟨M, MLe.refl M, hq⟩
    | exact absurd hp (by simp [plain, tyD])
theorem sh_is_between (C : Cl) : Shows (sp_is_between C) 3 (rd_is_between C) := by
  intro ds M q e h
  obtain ⟨d, a, b, rfl, hp, h⟩ := ar3_of h
  obtain ⟨lo, e1, h⟩ := asI_of h
  obtain ⟨hi, e2, hq⟩ := asI_of h
  subst e1 e2
  refine ⟨hp, ?_⟩
  cases d with
  | int i =>
    show if decide (lo ≤ i) = true then _ else _
    by_cases h1 : lo ≤ i
    · refine itT (decide_eq_true h1) ⟨M, MLe.refl M, ?_⟩
      have hq : q (.bl (decide (lo ≤ i) && decide (i ≤ hi))) M := hq
      rw [decide_eq_true h1] at hq
      exact hq
    · refine itF (decide_eq_false h1) ⟨M, MLe.refl M, ?_⟩
      have hq : q (.bl (decide (lo ≤ i) && decide (i ≤ hi))) M := hq
      rw [decide_eq_false h1] at hq
      exact hq
  | _ => first | exact ⟨M, MLe.refl M, hq⟩ | exact absurd hp (by simp [plain, tyD])
theorem g0_step (x y : Int) : g0 y (x % y) = g0 x y := by
  unfold g0
  have e : x % y = x + y * (-(x / y)) := by
    rw [Int.emod_def, Int.mul_neg]; omega
  rw [e, Int.gcd_add_mul_left_right, Int.gcd_comm]
theorem g0_zero {x : Int} (h : 0 ≤ x) : g0 x 0 = x := by
  unfold g0
  rw [Int.gcd_zero_right]
  omega
theorem sh_divisor (C : Cl) : Shows (sp_divisor C) 2 (rd_divisor C) := by
  intro ds M q e h
  obtain ⟨a, b, rfl, h⟩ := ar2_of h
  obtain ⟨x, e1, h⟩ := asI_of h
  obtain ⟨y, e2, h0, h1, hq⟩ := asI_of h
  subst e1 e2
  refine ⟨fun m ρ M' => ∃ x' y' : Int, ρ = [some (.val (.int x')), some (.val (.int y'))] ∧ M' = M ∧ 0 ≤ x' ∧ 0 ≤ y' ∧ g0 x' y' = g0 x y ∧ m = y'.toNat, ⟨_, x, y, rfl, rfl, h0, h1, rfl, rfl⟩, ?_⟩
  rintro m ρ M' ⟨x', y', rfl, rfl, g1, g2, g3, rfl⟩
  by_cases hy : 0 < y'
  · refine itT (decide_eq_true hy) ⟨hy, ?_⟩
    have e1 := Int.emod_nonneg x' (show y' ≠ 0 by omega)
    have e2 := Int.emod_lt_of_pos x' hy
    exact ⟨_, by omega, y', x' % y', rfl, rfl, g2, e1, by rw [g0_step]; exact g3, rfl⟩
  · refine itF (decide_eq_false hy) ⟨M', MLe.refl M', ?_⟩
    have e0 : y' = 0 := by omega
    rw [e0, g0_zero g1] at g3
    rw [g3]
    exact hq

theorem g0_pos {x y : Int} (h : 0 < y) : 0 < g0 x y := by
  have := Int.gcd_pos_iff (a := x) (b := y) |>.mpr (.inr (by omega))
  unfold g0
  omega
theorem g0_le {x y : Int} (h : 0 < y) : g0 x y ≤ y := by
  unfold g0
  exact Int.le_of_dvd h (Int.gcd_dvd_right ..)
theorem sh_lowest (C : Cl) : Shows (sp_lowest C) 3 (rd_lowest C) := by
  intro ds M q e h
  obtain ⟨a, b, rfl, h⟩ := ar2_of h
  obtain ⟨x, e1, h⟩ := asI_of h
  obtain ⟨y, e2, h0, h1, hb, hq⟩ := asI_of h
  subst e1 e2
  have gp := g0_pos (x := x) h1
  have gb := hb.le (Int.le_of_lt gp) (g0_le (x := x) h1)
  exact ⟨h0, Int.le_of_lt h1, gb.div gp x, gb.div gp y, by show 2 ≤ 1000000; decide, M, MLe.refl M, hq⟩
def rd_need_speed (C : Cl) : PTS := (dIfS (dNot (dTst (dCall (sp_is_speed C) [] (dCons (dVar 0) dNil)))) (dRaise (.ref C.BadSpeed)) dNext)
def rd_is_half (C : Cl) : PTS := (dRet (dCall (sp_is_between C) [] (dCons (dVar 0) (dCons (dC (.int 1)) (dCons (dC (.int 1000)) dNil)))))
def rd_folded (C : Cl) : PTS := (dSeq (dSet 3 (dOp fMod (dVar 1) (dOp fMul (dOp fMul (dC (.int 2)) (dVar 0)) (dVar 2))))
    (dRet (dCall (sp_lowest C) [] (dCons (dB1 fMin (dL (dLst (dCons (dVar 3) (dCons (dOp fSub (dOp fMul (dOp fMul (dC (.int 2)) (dVar 0)) (dVar 2)) (dVar 3)) dNil))))) (dCons (dVar 2) dNil)))))
def rd_seen (C : Cl) : PTS := (dSeq (dIfS (dNot (dTst (dCall (sp_is_half C) [] (dCons (dVar 0) dNil)))) (dRaise (.ref C.BadHalf)) dNext)
    (dSeq (dDrop (dCall (sp_need_speed C) [] (dCons (dVar 1) dNil)))
    (dRet (dCall (sp_folded C) [] (dCons (dVar 0) (dCons (dOp fIx (dVar 1) (dC (.int 0))) (dCons (dOp fIx (dVar 1) (dC (.int 1))) dNil)))))))
theorem eqD_int (i j : Int) : eqD (.int i) (.int j) = decide (i = j) := rfl
theorem sh_is_speed (C : Cl) : Shows (sp_is_speed C) 2 (rd_is_speed C) := by
  intro ds M q e h
  obtain ⟨d, rfl, hp, hpart, hq⟩ := ar1_of h
  cases d with
  | tup l =>
    rcases l with _ | ⟨a, _ | ⟨b, _ | ⟨c, r⟩⟩⟩
    · exact ⟨rfl, M, MLe.refl M, hq⟩
    · cases a <;> exact ⟨rfl, M, MLe.refl M, hq⟩
    · obtain ⟨ha, hb⟩ : plain a = true ∧ plain b = true := by
        have h2 : (plain a && (plain b && true)) = true := hpart
        simpa using h2
      refine ⟨rfl, rfl, ha, by show 0 < 1000000; decide, hb, by show 1 < 1000000; decide, ?_⟩
      cases a with
      | int x =>
        cases b with
        | int y =>
          refine ⟨_, rfl, ?_⟩
          have hq : q (.bl (decide (0 ≤ x) && (decide (1 ≤ y) && decide (g0 x y = 1)))) M := hq
          by_cases h0 : 0 ≤ x
          · refine itT (decide_eq_true h0) ⟨_, rfl, ?_⟩
            rw [decide_eq_true h0] at hq
            by_cases h1 : 1 ≤ y
            · refine itT (decide_eq_true h1) ⟨_, rfl, _, rfl, h0, by omega, rfl, M, MLe.refl M, ?_⟩
              rw [decide_eq_true h1] at hq
              exact hq
            · refine itF (decide_eq_false h1) ⟨M, MLe.refl M, ?_⟩
              rw [decide_eq_false h1] at hq
              exact hq
          · refine itF (decide_eq_false h0) ⟨M, MLe.refl M, ?_⟩
            rw [decide_eq_false h0] at hq
            exact hq
        | _ => exact ⟨M, MLe.refl M, hq⟩
      | _ => cases b <;> exact ⟨M, MLe.refl M, hq⟩
    · refine ⟨rfl, ?_⟩
      cases a <;> first | exact ⟨M, MLe.refl M, hq⟩ | (cases b <;> exact ⟨M, MLe.refl M, hq⟩)
  | _ => first | exact ⟨M, MLe.refl M, hq⟩ | exact absurd hp (by simp [plain, tyD])
theorem sh_need_speed (C : Cl) : Shows (sp_need_speed C) 1 (rd_need_speed C) := by
  intro ds M q e h
  obtain ⟨d, rfl, hp, hpart, hq⟩ := ar1_of h
  refine ⟨hp, hpart, ?_⟩
  cases c : isSpD d with
  | true =>
    rw [c] at hq
    exact ⟨M, MLe.refl M, hq⟩
  | false =>
    rw [c] at hq
    exact ⟨M, MLe.refl M, hq⟩
theorem sh_is_half (C : Cl) : Shows (sp_is_half C) 1 (rd_is_half C) := by
  intro ds M q e h
  obtain ⟨d, rfl, hp, hq⟩ := ar1_of h
  exact ⟨hp, M, MLe.refl M, hq⟩
theorem sh_folded (C : Cl) : Shows (sp_folded C) 4 (rd_folded C) := by
  intro ds M q e hh0
  obtain ⟨x1, x2, x3, rfl, hx⟩ := ar3_of hh0
  obtain ⟨h, e1, x⟩ := asI_of hx
  subst e1
  obtain ⟨t, e2, x⟩ := asI_of x
  obtain ⟨b, e3, ⟨h0, t0, b0⟩, ⟨hh, bb⟩, hq⟩ := asI_of x
  subst e2 e3
  have m0 : 0 < 2 * h := by omega
  have m1 : 0 < 2 * h * b := Int.mul_pos m0 b0
  have r0 := Int.emod_nonneg t (show 2 * h * b ≠ 0 by omega)
  have r1 := Int.emod_lt_of_pos t m1
  have q1 : CMulX 2 h := cmul_of (a := 2) (b := 1001) (by decide) (by
    have : h.natAbs ≤ 2 ^ 1000 := by omega
    exact Nat.lt_of_le_of_lt this (by decide)) (by decide)
  have q2 : CMulX (2 * h) b := cmul_of (a := 1002) (b := 1001) (by
    have : (2 * h).natAbs ≤ 2 * 2 ^ 1000 := by omega
    exact Nat.lt_of_le_of_lt this (by decide)) (by
    have : b.natAbs ≤ 2 ^ 1000 := by omega
    exact Nat.lt_of_le_of_lt this (by decide)) (by decide)
  refine ⟨q1, q2, m1, q1, q2, by show 2 ≤ 1000000; decide, ?_, b0, ?_, M, MLe.refl M, ?_⟩
  · show 0 ≤ near (2 * h * b) t
    unfold near
    split <;> omega
  · have : b.natAbs ≤ 2 ^ 1000 := by omega
    exact Nat.lt_of_le_of_lt this (by decide)
  · exact hq
theorem seenD_of {h s : D} {k : D → Prop} (x : seenD h s k) : ∃ i a b, h = .int i ∧ s = .tup [.int a, .int b] ∧ b ≤ 2 ^ 1000 ∧ ∀ d, d = foldD i a b → k d := by
  unfold seenD at x
  split at x
  · exact ⟨_, _, _, rfl, rfl, x⟩
  · exact x.elim
theorem sh_seen (C : Cl) : Shows (sp_seen C) 2 (rd_seen C) := by
  intro ds M q e hh0
  obtain ⟨h, s, rfl, ⟨p1, p2, p3⟩, hq⟩ := ar2_of hh0
  refine ⟨p1, ?_⟩
  cases c : btwD h 1 1000 with
  | false =>
    rw [c] at hq
    exact ⟨M, MLe.refl M, hq⟩
  | true =>
    rw [c] at hq
    refine ⟨p2, p3, ?_⟩
    cases c2 : isSpD s with
    | false =>
      rw [c2] at hq
      exact ⟨M, MLe.refl M, hq⟩
    | true =>
      rw [c2] at hq
      have hq : seenD h s fun d => q d M := hq
      obtain ⟨i, a, b, rfl, rfl, hb, hq⟩ := seenD_of hq
      have h1 : (decide (0 ≤ a) && (decide (1 ≤ b) && decide (g0 a b = 1))) = true := c2
      have h2 : (decide (1 ≤ i) && decide (i ≤ 1000)) = true := c
      simp only [Bool.and_eq_true, decide_eq_true_eq] at h1 h2
      have big : (1000 : Int) ≤ 2 ^ 1000 := by decide
      exact ⟨_, rfl, _, rfl, ⟨by omega, h1.1, by omega⟩, ⟨by omega, hb⟩, M, MLe.refl M, hq _ rfl⟩
end Px

set_option Elab.async false
set_option linter.all false
set_option maxRecDepth 100000
namespace Px
open PySem PySem.Spec PyProof.Rows L2

/-! # plain laws of speeds in lowest terms and of what is seen -/
theorem g0_mul {g : Int} (hg : 0 < g) (x y : Int) : g0 (g * x) (g * y) = g * g0 x y := by
  unfold g0
  rw [Int.gcd_mul_left]
  have e : (g.natAbs : Int) = g := by omega
  rw [Int.natCast_mul, e]
theorem spd_mul {g : Int} (hg : 0 < g) (x y : Int) : spd (g * x) (g * y) = spd x y := by
  unfold spd
  rw [g0_mul hg, Int.mul_ediv_mul_of_pos _ _ hg, Int.mul_ediv_mul_of_pos _ _ hg]
theorem g0_dvd_l (x y : Int) : g0 x y ∣ x := Int.gcd_dvd_left ..
theorem g0_dvd_r (x y : Int) : g0 x y ∣ y := Int.gcd_dvd_right ..
theorem emod_mul {g : Int} (hg : 0 < g) (t s : Int) : (g * t) % (g * s) = g * (t % s) := Int.mul_emod_mul_of_pos _ _ hg
theorem near_mul {g : Int} (hg : 0 < g) (s t : Int) : near (g * s) (g * t) = g * near s t := by
  unfold near
  rw [emod_mul hg, ← Int.mul_sub]
  by_cases c : s - t % s < t % s
  · rw [if_pos c, if_pos (Int.mul_lt_mul_of_pos_left c hg)]
  · rw [if_neg c, if_neg (fun z => c (Int.lt_of_mul_lt_mul_left z (Int.le_of_lt hg)))]
/-- what is seen of a fraction is seen of it in lowest terms -/
theorem fold_spd {h t b : Int} (hb : 0 < b) : foldD h (t / g0 t b) (b / g0 t b) = spd (near (2 * h * b) t) b := by
  have gp := g0_pos (x := t) hb
  obtain ⟨t', et⟩ := g0_dvd_l t b
  obtain ⟨b', eb⟩ := g0_dvd_r t b
  generalize g0 t b = g at *
  subst et eb
  rw [Int.mul_ediv_cancel_left _ (by omega), Int.mul_ediv_cancel_left _ (by omega)]
  unfold foldD
  rw [show 2 * h * (g * b') = g * (2 * h * b') by rw [Int.mul_left_comm], near_mul gp, spd_mul gp]
theorem spd_ok {t b : Int} (ht : 0 ≤ t) (hb : 0 < b) : isSpD (spd t b) = true := by
  have gp := g0_pos (x := t) hb
  obtain ⟨t', et⟩ := g0_dvd_l t b
  obtain ⟨b', eb⟩ := g0_dvd_r t b
  have h1 : g0 (g0 t b * t') (g0 t b * b') = g0 t b * 1 := by rw [← et, ← eb, Int.mul_one]
  rw [g0_mul gp] at h1
  have h2 : g0 t' b' = 1 := Int.eq_of_mul_eq_mul_left (by omega) h1
  show (decide (0 ≤ t / g0 t b) && (decide (1 ≤ b / g0 t b) && decide (g0 (t / g0 t b) (b / g0 t b) = 1))) = true
  have e1 : t / g0 t b = t' := by conv => { lhs; lhs; rw [et] }; exact Int.mul_ediv_cancel_left _ (by omega)
  have e2 : b / g0 t b = b' := by conv => { lhs; lhs; rw [eb] }; exact Int.mul_ediv_cancel_left _ (by omega)
  have p1 : 0 ≤ t / g0 t b := Int.ediv_nonneg ht (by omega)
  have p2 : 0 < b / g0 t b := by
    rw [e2]
    exact Int.pos_of_mul_pos_left (a := b') (b := g0 t b) (by rw [Int.mul_comm, ← eb]; exact hb) gp
  rw [decide_eq_true p1, decide_eq_true (show 1 ≤ b / g0 t b by omega), e1, e2, h2]
  rfl
theorem near_bounds {s : Int} (hs : 0 < s) (t : Int) : 0 ≤ near s t ∧ 2 * near s t ≤ s ∧ (near s t = t % s ∨ near s t = s - t % s) := by
  have a := Int.emod_nonneg t (show s ≠ 0 by omega)
  have b := Int.emod_lt_of_pos t hs
  unfold near
  split <;> omega
theorem near_add (s t k : Int) : near s (t + s * k) = near s t := by
  unfold near
  rw [Int.add_mul_emod_self_left]
theorem near_near {s : Int} (hs : 0 < s) (t : Int) : near s (near s t) = near s t := by
  obtain ⟨a, b, _⟩ := near_bounds hs t
  generalize near s t = m at *
  unfold near
  rw [Int.emod_eq_of_lt a (by omega), if_neg (by omega)]
theorem near_iff {s : Int} (hs : 0 < s) (x y : Int) : near s x = near s y ↔ (x - y) % s = 0 ∨ (x + y) % s = 0 := by
  have a := Int.emod_nonneg x (show s ≠ 0 by omega)
  have b := Int.emod_lt_of_pos x hs
  have c := Int.emod_nonneg y (show s ≠ 0 by omega)
  have d := Int.emod_lt_of_pos y hs
  have e1 : (x - y) % s = (x % s - y % s) % s := by rw [Int.sub_emod]
  have e2 : (x + y) % s = (x % s + y % s) % s := by rw [Int.add_emod]
  rw [e1, e2]
  unfold near
  generalize x % s = p at *
  generalize y % s = q at *
  have f1 : (p - q) % s = if p < q then p - q + s else p - q := by
    split
    · rw [show (p - q) % s = (p - q + s) % s by rw [Int.add_emod_right]]
      exact Int.emod_eq_of_lt (by omega) (by omega)
    · exact Int.emod_eq_of_lt (by omega) (by omega)
  have f2 : (p + q) % s = if p + q < s then p + q else p + q - s := by
    split
    · exact Int.emod_eq_of_lt (by omega) (by omega)
    · rw [show (p + q) % s = (p + q - s) % s by rw [Int.sub_emod_right]]
      exact Int.emod_eq_of_lt (by omega) (by omega)
  rw [f1, f2]
  split <;> split <;> split <;> split <;> omega
theorem near_refl2 {s u f : Int} (hs : 0 < s) (k : Int) (hu : 2 * u = s * k) : near s (if u - f < 0 then -(u - f) else u - f) = near s (u + f) := by
  rw [near_iff hs]
  split
  · refine .inl ?_
    rw [show -(u - f) - (u + f) = s * (-k) by rw [Int.mul_neg]; omega]
    exact Int.mul_emod_right ..
  · refine .inr ?_
    rw [show (u - f) + (u + f) = s * k by omega]
    exact Int.mul_emod_right ..
theorem spd_inj {x y b : Int} (hb : 0 < b) (h : spd x b = spd y b) : x = y := by
  unfold spd at h
  have h1 : x / g0 x b = y / g0 y b := by injection h with h; injection h with h _; injection h
  have h2 : b / g0 x b = b / g0 y b := by injection h with h; injection h with _ h; injection h with h _; injection h
  have gx := g0_pos (x := x) hb
  have gy := g0_pos (x := y) hb
  have ex := Int.mul_ediv_cancel' (g0_dvd_l x b)
  have ey := Int.mul_ediv_cancel' (g0_dvd_l y b)
  have ebx := Int.mul_ediv_cancel' (g0_dvd_r x b)
  have eby := Int.mul_ediv_cancel' (g0_dvd_r y b)
  have hg : g0 x b = g0 y b := by
    have q : g0 x b * (b / g0 x b) = g0 y b * (b / g0 x b) := by rw [ebx, h2, eby]
    have nz : b / g0 x b ≠ 0 := fun z => by rw [z, Int.mul_zero] at ebx; omega
    exact Int.eq_of_mul_eq_mul_right nz q
  rw [← ex, ← ey, h1, hg]
theorem eqD_spd {x y b : Int} (hb : 0 < b) : eqD (spd x b) (spd y b) = decide (x = y) := by
  have e : eqD (spd x b) (spd y b) = (decide (x / g0 x b = y / g0 y b) && (decide (b / g0 x b = b / g0 y b) && true)) := rfl
  rw [e]
  by_cases h : x = y
  · subst h
    simp
  · rw [decide_eq_false h]
    by_cases h1 : x / g0 x b = y / g0 y b
    · by_cases h2 : b / g0 x b = b / g0 y b
      · exact absurd (spd_inj hb (show spd x b = spd y b by unfold spd; rw [h1, h2])) h
      · rw [decide_eq_false h2]; simp
    · rw [decide_eq_false h1]; simp
theorem okD_spd {t b : Int} : okD 50 (spd t b) = true := rfl
theorem plain_spd (t b : Int) : plain (spd t b) = true ∧ parts (spd t b) = true := ⟨rfl, rfl⟩
/-! ### the law's fractions -/
def sp__law_fraction : PSp := fun ds M q _ => ar2 ds fun a b => asI a fun x => asI b fun y => (0 ≤ x ∧ 0 < y ∧ Bd y) ∧ q (spd x y) M
def rd__law_fraction : PTS := (dSeq (dPar 2 3 (dCons (dVar 0) (dCons (dVar 1) dNil)))
    (dSeq (dWhile (dTst (dOp fGt (dVar 3) (dC (.int 0)))) (dPar 2 3 (dCons (dVar 3) (dCons (dOp fMod (dVar 2) (dVar 3)) dNil))))
    (dRet (dTup (dCons (dOp fDiv (dVar 0) (dVar 2)) (dCons (dOp fDiv (dVar 1) (dVar 2)) dNil))))))
theorem sh__law_fraction : Shows sp__law_fraction 4 rd__law_fraction := by
  intro ds M q e h
  obtain ⟨a, b, rfl, h⟩ := ar2_of h
  obtain ⟨x, e1, h⟩ := asI_of h
  obtain ⟨y, e2, ⟨h0, h1, hb⟩, hq⟩ := asI_of h
  subst e1 e2
  have gp := g0_pos (x := x) h1
  have gb := hb.le (Int.le_of_lt gp) (g0_le (x := x) h1)
  refine ⟨fun m ρ M' => ∃ x' y' : Int, ρ = [some (.val (.int x)), some (.val (.int y)), some (.val (.int x')), some (.val (.int y'))] ∧ M' = M ∧ 0 ≤ x' ∧ 0 ≤ y' ∧ g0 x' y' = g0 x y ∧ m = y'.toNat, ⟨_, x, y, rfl, rfl, h0, by omega, rfl, rfl⟩, ?_⟩
  rintro m ρ M' ⟨x', y', rfl, rfl, g1, g2, g3, rfl⟩
  by_cases hy : 0 < y'
  · refine itT (decide_eq_true hy) ⟨hy, ?_⟩
    have e1 := Int.emod_nonneg x' (show y' ≠ 0 by omega)
    have e2 := Int.emod_lt_of_pos x' hy
    exact ⟨_, by omega, y', x' % y', rfl, rfl, g2, e1, by rw [g0_step]; exact g3, rfl⟩
  · have e0 : y' = 0 := by omega
    rw [e0, g0_zero g1] at g3
    subst g3
    exact itF (decide_eq_false hy) ⟨gb.div gp x, gb.div gp y, by show 2 ≤ 1000000; decide, M', MLe.refl M', hq⟩
end Px

set_option Elab.async false
set_option linter.all false
set_option maxRecDepth 100000
namespace Px
open PySem PySem.Spec PyProof.Rows L2
/-! # loops and comprehensions by plain lists -/
theorem compR_fm {gd : PTG} {tt : PTT} {te : PTE} {ρ : Rho} {M : Mm} {q : List D → Mm → Prop} (fm : D → Option D) : ∀ (ds acc : List D),
    (∀ d ∈ ds, ∀ (kt : D → Mm → Prop) (kf : Mm → Prop), (match fm d with | some y => kt y M | none => kf M) → gd d ρ fun ρ' => tt w0 ρ' M fun b M1 => if b = true then te w0 ρ' M1 kt else kf M1) →
    acc.length + ds.length ≤ 1000000 → q (acc ++ ds.filterMap fm) M → compR gd tt te ρ ds acc M q
  | [], acc, _, _, h => by
    have h : q (acc ++ []) M := h
    rw [List.append_nil] at h
    exact h
  | d :: r, acc, hb, hl, h => by
    have hl : acc.length + (r.length + 1) ≤ 1000000 := hl
    refine hb d List.mem_cons_self _ _ ?_
    rw [List.filterMap_cons] at h
    cases e : fm d with
    | some y =>
      rw [e] at h
      refine ⟨by omega, compR_fm fm r (acc ++ [y]) (fun d' h' => hb d' (List.mem_cons_of_mem _ h')) (by rw [List.length_append, List.length_singleton]; omega) ?_⟩
      rw [List.append_assoc]
      exact h
    | none =>
      rw [e] at h
      exact compR_fm fm r acc (fun d' h' => hb d' (List.mem_cons_of_mem _ h')) (by omega) h
/-- every item is taken -/
theorem compR_map {gd : PTG} {tt : PTT} {te : PTE} {ρ : Rho} {M : Mm} {q : List D → Mm → Prop} (f : D → D) (ds : List D)
    (hb : ∀ d ∈ ds, ∀ (kt : D → Mm → Prop) (kf : Mm → Prop), kt (f d) M → gd d ρ fun ρ' => tt w0 ρ' M fun b M1 => if b = true then te w0 ρ' M1 kt else kf M1) (hl : ds.length ≤ 1000000)
    (h : q (ds.map f) M) : compR gd tt te ρ ds [] M q := by
  refine compR_fm (fun d => some (f d)) ds [] (fun d hd kt kf k => hb d hd kt kf k) (by simpa using hl) ?_
  rw [List.nil_append, show ds.filterMap (fun d => some (f d)) = ds.map f by rw [← List.filterMap_eq_map]; rfl]
  exact h
/-- some items are taken as they are -/
theorem compR_flt {gd : PTG} {tt : PTT} {te : PTE} {ρ : Rho} {M : Mm} {q : List D → Mm → Prop} (p : D → Bool) (ds : List D)
    (hb : ∀ d ∈ ds, ∀ (kt : D → Mm → Prop) (kf : Mm → Prop), (if p d = true then kt d M else kf M) → gd d ρ fun ρ' => tt w0 ρ' M fun b M1 => if b = true then te w0 ρ' M1 kt else kf M1) (hl : ds.length ≤ 1000000)
    (h : q (ds.filter p) M) : compR gd tt te ρ ds [] M q := by
  refine compR_fm (fun d => if p d = true then some d else none) ds [] (fun d hd kt kf k => hb d hd kt kf ?_) (by simpa using hl) ?_
  · by_cases c : p d = true
    · rw [if_pos c] at k ⊢; exact k
    · rw [if_neg c] at k ⊢; exact k
  · have e : ds.filterMap (fun d => if p d = true then some d else none) = ds.filter p := by
      clear h hl hb
      induction ds with
      | nil => rfl
      | cons d r ih => rw [List.filterMap_cons, List.filter_cons, ih]; by_cases c : p d = true <;> simp [c]
    rw [List.nil_append, e]
    exact h
/-- a loop by what is left of its items -/
theorem forR_ind {gd : PTG} {pb : PTS} {w : PWi} {P : PEnds} (I : List D → Rho → Mm → Prop) (hb : ∀ d r ρ M, I (d :: r) ρ M → ∀ F : Rho → Mm → Prop, (∀ ρ' M', I r ρ' M' → F ρ' M') → gd d ρ fun ρ' => pb w { P with nx := F, ct := F, bk := P.nx } ρ' M)
    (he : ∀ ρ M, I [] ρ M → P.nx ρ M) : ∀ (ds : List D) (ρ : Rho) (M : Mm), I ds ρ M → forR gd pb w ds P ρ M
  | [], ρ, M, h => he ρ M h
  | d :: r, ρ, M, h => hb d r ρ M h _ fun ρ' M' h' => forR_ind I hb he r ρ' M' h'
theorem forR_ix {gd : PTG} {pb : PTS} {w : PWi} {P : PEnds} (I : Nat → Rho → Mm → Prop) : ∀ (ds : List D) (k : Nat), (∀ i d, ds[i]? = some d → ∀ F : Rho → Mm → Prop, (∀ ρ M, I (k + i + 1) ρ M → F ρ M) → ∀ ρ M, I (k + i) ρ M → gd d ρ fun ρ' => pb w { P with nx := F, ct := F, bk := P.nx } ρ' M) →
    (∀ ρ M, I (k + ds.length) ρ M → P.nx ρ M) → ∀ ρ M, I k ρ M → forR gd pb w ds P ρ M
  | [], k, _, he, ρ, M, h => he ρ M h
  | d :: ds, k, hb, he, ρ, M, h => hb 0 d rfl _ (fun ρ' M' h' => forR_ix I ds (k + 1) (fun i d' hd' F hF ρ2 M2 h2 => hb (i + 1) d' hd' F (fun ρ3 M3 h3 => hF ρ3 M3 (by
      have e : k + 1 + i + 1 = k + (i + 1) + 1 := by omega
      rw [e]; exact h3)) ρ2 M2 (by
      have e : k + (i + 1) = k + 1 + i := by omega
      rw [e]; exact h2)) (fun ρ2 M2 h2 => he ρ2 M2 (by
      have e : k + (d :: ds).length = k + 1 + ds.length := by rw [List.length_cons]; omega
      rw [e]; exact h2)) ρ' M' h') ρ M h
/-- a fraction, its value told by an equation -/
def sp_frac2 : PSp := fun ds M q _ => ar2 ds fun a b => asI a fun x => asI b fun y => (0 ≤ x ∧ 0 < y ∧ Bd y) ∧ ∀ d, d = spd x y → q d M
theorem sh_frac2 : Shows sp_frac2 4 rd__law_fraction := by
  intro ds M q e h
  obtain ⟨a, b, rfl, h⟩ := ar2_of h
  obtain ⟨x, e1, h⟩ := asI_of h
  obtain ⟨y, e2, hc, hq⟩ := asI_of h
  subst e1 e2
  exact sh__law_fraction _ M q e ⟨hc, hq _ rfl⟩

/-! # sizes -/
/-- below 2 ^ n -/
class SzB (n : outParam Nat) (i : Int) : Prop where
  h : i.natAbs < 2 ^ n
theorem SzB.of {n : Nat} {i : Int} (h0 : -(2 ^ n) < i) (h1 : i < 2 ^ n) : SzB n i := ⟨by
  have e : ((2 ^ n : Nat) : Int) = 2 ^ n := by rw [Int.natCast_pow]; rfl
  omega⟩
theorem SzB.mulX {i j : Int} {m n : Nat} (a : SzB m i) (b : SzB n j) (h : m + n ≤ 134217728 := by decide) : CMulX i j := cmul_of a.h b.h h
theorem SzB.bd {i : Int} {m : Nat} (a : SzB m i) (h : m ≤ 8000 := by decide) : Bd i := Nat.lt_of_lt_of_le a.h (Nat.pow_le_pow_right (by decide) h)
theorem SzB.divX {i j : Int} {m : Nat} (h0 : 0 < i) (a : SzB m i) (h : m ≤ 8000 := by decide) : CDivW j i := (a.bd h).div h0 j
theorem SzB.log {i : Int} {m : Nat} (a : SzB m i) (h : m ≤ 8000 := by decide) : i.natAbs.log2 < 9000 := Nat.lt_trans (PySem.Flt.log2_lt_of (by decide) (a.bd h)) (by decide)
theorem SzB.mono {i : Int} {m n : Nat} (a : SzB m i) (h : m ≤ n) : SzB n i := ⟨Nat.lt_of_lt_of_le a.h (Nat.pow_le_pow_right (by decide) h)⟩
theorem SzB.le {i j : Int} {m : Nat} (a : SzB m j) (h : i.natAbs ≤ j.natAbs) : SzB m i := ⟨Nat.lt_of_le_of_lt h a.h⟩
instance SzB.mul {i j : Int} {m n : Nat} [a : SzB m i] [b : SzB n j] : SzB (m + n) (i * j) := ⟨by
  rw [Int.natAbs_mul, Nat.pow_add]
  exact Nat.mul_lt_mul'' a.h b.h⟩
theorem pow_max {x y m n : Nat} (h : x < 2 ^ m) (h' : y < 2 ^ n) : x + y < 2 ^ (max m n + 1) := by
  have h1 := Nat.pow_le_pow_right (show 0 < 2 by decide) (Nat.le_max_left m n)
  have h2 := Nat.pow_le_pow_right (show 0 < 2 by decide) (Nat.le_max_right m n)
  rw [Nat.pow_succ]
  omega
instance SzB.add {i j : Int} {m n : Nat} [a : SzB m i] [b : SzB n j] : SzB (max m n + 1) (i + j) := ⟨Nat.lt_of_le_of_lt (Int.natAbs_add_le i j) (pow_max a.h b.h)⟩
instance SzB.sub {i j : Int} {m n : Nat} [a : SzB m i] [b : SzB n j] : SzB (max m n + 1) (i - j) := ⟨Nat.lt_of_le_of_lt (by omega) (pow_max a.h b.h)⟩
instance SzB.neg {i : Int} {m : Nat} [a : SzB m i] : SzB m (-i) := ⟨by rw [Int.natAbs_neg]; exact a.h⟩
instance SzB.div {i j : Int} {m : Nat} [a : SzB m i] : SzB (m + 1) (i / j) := ⟨by
  have h := a.h
  have e : (i / j).natAbs ≤ i.natAbs + 1 := by
    have := Int.natAbs_ediv_le_natAbs i j
    omega
  rw [Nat.pow_succ]
  have : 0 < 2 ^ m := Nat.pow_pos (by decide)
  omega⟩
instance SzB.mod {i j : Int} {m n : Nat} [a : SzB m i] [b : SzB n j] : SzB (max m n + 1) (i % j) := ⟨by
  refine Nat.lt_of_le_of_lt ?_ (pow_max a.h b.h)
  by_cases c : j = 0
  · subst c
    rw [Int.emod_zero]
    omega
  · have h1 := Int.emod_nonneg i c
    have h2 := Int.emod_lt i c
    omega⟩
instance SzB.lit {k : Nat} : SzB (Nat.log2 k + 1) (no_index (OfNat.ofNat k) : Int) := ⟨by
  show (k : Int).natAbs < 2 ^ (Nat.log2 k + 1)
  rw [Int.natAbs_natCast]
  exact Nat.lt_log2_self⟩
instance SzB.pow {i : Int} {m k : Nat} [a : SzB m i] : SzB (m * k + 1) (i ^ k) := ⟨by
  rw [Int.natAbs_pow, Nat.pow_succ, Nat.pow_mul]
  have h1 : i.natAbs ^ k ≤ (2 ^ m) ^ k := Nat.pow_le_pow_left (Nat.le_of_lt a.h) k
  have h2 : 0 < (2 ^ m) ^ k := Nat.pow_pos (Nat.pow_pos (by decide))
  omega⟩
instance SzB.ite {p : Prop} [Decidable p] {i j : Int} {m n : Nat} [a : SzB m i] [b : SzB n j] : SzB (max m n) (if p then i else j) := ⟨by
  split
  · exact Nat.lt_of_lt_of_le a.h (Nat.pow_le_pow_right (by decide) (Nat.le_max_left m n))
  · exact Nat.lt_of_lt_of_le b.h (Nat.pow_le_pow_right (by decide) (Nat.le_max_right m n))⟩
end Px

set_option Elab.async false
set_option linter.all false
set_option maxRecDepth 100000
namespace Px
open PySem PySem.Spec PyProof.Rows L2
/-! # what repr takes -/
def Szb (i : Int) : Prop := -(10 ^ 60) ≤ i ∧ i ≤ 10 ^ 60
/-- data so deep and so heavy at most, whose ints are not too long -/
structure Shw (n w : Nat) (d : D) : Prop where
  ok : okD n d = true
  sh : PyData.showable (toPy d) = true
  lv : PyData.leavesShort 70 (toPy d) = true
  wt : PyData.weight (toPy d) ≤ w
structure ShwL (n w : Nat) (l : List D) : Prop where
  ok : l.all (okD n) = true
  sh : PyData.showableAll (toPyL l) = true
  lv : PyData.leavesShortAll 70 (toPyL l) = true
  wt : PyData.weightAll (toPyL l) ≤ w
theorem Shw.int {n : Nat} {i : Int} (h : Szb i) : Shw n 211 (.int i) := by
  have a : i.natAbs < 10 ^ 61 := by have := h.1; have := h.2; omega
  have a2 : i.natAbs < 2 ^ 210 := Nat.lt_of_le_of_lt (show i.natAbs ≤ 10 ^ 60 by have := h.1; have := h.2; omega) (by decide)
  refine ⟨by cases n <;> rfl, ?_, ?_, ?_⟩
  · show PyData.showable (.int i) = true
    simp only [PyData.showable]
    exact decide_eq_true (PySem.Flt.log2_lt_of (by decide) (Nat.lt_of_lt_of_le a2 (Nat.pow_le_pow_right (by decide) (by decide))))
  · have := int_text_length_le10 (a := i) (k := 61) (by decide) a
    show decide _ = true
    refine decide_eq_true ?_
    simp only [PyData.shown]
    rw [PySem.ofString_length]
    omega
  · have := PySem.Flt.log2_lt_of (by decide) a2
    show PyData.weight (.int i) ≤ 211
    simp only [PyData.weight]
    split <;> omega
theorem Shw.bl {n : Nat} {b : Bool} : Shw n 0 (.bl b) := ⟨by cases n <;> rfl, rfl, rfl, by show PyData.weight (.bool b) ≤ 0; simp [PyData.weight]⟩
theorem Shw.non {n : Nat} : Shw n 0 .non := ⟨by cases n <;> rfl, rfl, rfl, by show PyData.weight .none ≤ 0; simp [PyData.weight]⟩
theorem Shw.str {n w : Nat} {s : Str} (h1 : PyData.strOk s = true := by decide +kernel) (h2 : PyData.leavesShort 70 (.str s) = true := by decide +kernel) (h3 : PyData.weight (.str s) ≤ w := by decide +kernel) : Shw n w (.str s) := ⟨by cases n <;> exact h1, rfl, h2, h3⟩
theorem ShwL.nil {n : Nat} : ShwL n 0 [] := ⟨rfl, rfl, rfl, by simp [toPyL, PyData.weightAll]⟩
theorem ShwL.cons {n a b : Nat} {d : D} {l : List D} (h : Shw n a d) (k : ShwL n b l) : ShwL n (a + 1 + b) (d :: l) := by
  refine ⟨by rw [List.all_cons, h.ok, k.ok]; rfl, ?_, ?_, ?_⟩
  · show (PyData.showable (toPy d) && PyData.showableAll (toPyL l)) = true
    rw [h.sh, k.sh]; rfl
  · show (PyData.leavesShort 70 (toPy d) && PyData.leavesShortAll 70 (toPyL l)) = true
    rw [h.lv, k.lv]; rfl
  · show PyData.weight (toPy d) + 1 + PyData.weightAll (toPyL l) ≤ _
    have := h.wt; have := k.wt; omega
theorem ShwL.all {n w : Nat} : ∀ {l : List D}, (∀ d ∈ l, Shw n w d) → ShwL n ((w + 1) * l.length) l
  | [], _ => .nil
  | d :: r, h => by
    have := ShwL.cons (h d List.mem_cons_self) (ShwL.all fun x q => h x (List.mem_cons_of_mem _ q))
    have e : (w + 1) * (d :: r).length = w + 1 + (w + 1) * r.length := by rw [List.length_cons, Nat.mul_succ]; omega
    rw [e]; exact this
theorem Shw.tup {n w : Nat} {l : List D} (h : ShwL n w l) : Shw (n + 1) w (.tup l) := ⟨h.ok, h.sh, h.lv, h.wt⟩
theorem Shw.lst {n w : Nat} {l : List D} (h : ShwL n w l) : Shw (n + 1) w (.lst l) := ⟨h.ok, h.sh, h.lv, h.wt⟩
theorem okD_mono : ∀ (n m : Nat) (d : D), n ≤ m → okD n d = true → okD m d = true := by
  intro n
  induction n with
  | zero => intro m d _ h; cases d <;> first | (cases m <;> exact h) | (cases h)
  | succ n ih =>
    intro m d hm h
    cases m with
    | zero => omega
    | succ m =>
      cases d with
      | tup l =>
        have h : l.all (okD n) = true := h
        show l.all (okD m) = true
        rw [List.all_eq_true] at h ⊢
        exact fun x hx => ih m x (by omega) (h x hx)
      | lst l =>
        have h : l.all (okD n) = true := h
        show l.all (okD m) = true
        rw [List.all_eq_true] at h ⊢
        exact fun x hx => ih m x (by omega) (h x hx)
      | _ => first | exact h | cases h
theorem Shw.ok50 {n w : Nat} {d : D} (h : Shw n w d) (hn : n ≤ 50 := by decide) : okD 50 d = true := okD_mono n 50 d hn h.ok
theorem Shw.show {n w : Nat} {d : D} (h : Shw n w d) (hw : w ≤ 200000) : showOk (toPy d) := by
  refine ⟨h.sh, ?_⟩
  have h1 := PyData.shown_le 70 (by decide) _ h.lv
  have h2 := Nat.mul_le_mul_left (70 + 2) (Nat.le_trans h.wt hw)
  omega
theorem Shw.ints {n : Nat} {ns : List Int} (h : ∀ i ∈ ns, Szb i) : ShwL n (212 * ns.length) (ns.map .int) := by
  have := ShwL.all (n := n) (w := 211) (l := ns.map .int) fun d hd => by
    obtain ⟨i, hi, rfl⟩ := List.mem_map.mp hd
    exact .int (h i hi)
  rw [List.length_map] at this
  exact this
end Px

set_option Elab.async false
set_option linter.all false
set_option maxRecDepth 100000
namespace Px
open PySem PySem.Spec PyProof.Rows L2
/-! # dicts with keys that are data -/
mutual
theorem hash_nt (w w' : World) : ∀ k : NestedKey, ntK k = true → k.hash w = k.hash w'
  | .none, _ => rfl
  | .num _, _ => rfl
  | .text _, h => by cases h
  | .tup ks, h => by
    have e := hashes_nt w w' ks h
    show reduceHash (Builtin.Tuple.tupleHashOf (NestedKey.hashes w ks)) = reduceHash (Builtin.Tuple.tupleHashOf (NestedKey.hashes w' ks))
    rw [e]
theorem hashes_nt (w w' : World) : ∀ ks : List NestedKey, ntKL ks = true → NestedKey.hashes w ks = NestedKey.hashes w' ks
  | [], _ => rfl
  | k :: r, h => by
    have h : (ntK k && ntKL r) = true := h
    rw [Bool.and_eq_true] at h
    show k.hash w :: NestedKey.hashes w r = k.hash w' :: NestedKey.hashes w' r
    rw [hash_nt w w' k h.1, hashes_nt w w' r h.2]
end
mutual
theorem nt_nk : ∀ (d : D) (k : NestedKey), nkOf d = some k → ntK k = true
  | .non, _, h => by cases h; rfl
  | .bl _, _, h => by cases h; rfl
  | .int _, _, h => by cases h; rfl
  | .tup l, k, h => by
    have h : (nkOfL l).map NestedKey.tup = some k := h
    cases e : nkOfL l with
    | none => rw [e] at h; cases h
    | some ks => rw [e] at h; cases h; exact nt_nkL l ks e
  | .str _, _, h => by cases h
  | .lst _, _, h => by cases h
  | .dic _ _, _, h => by cases h
  | .obj _ _ _, _, h => by cases h
  | .raw _, _, h => by cases h
  | .scr _, _, h => by cases h
theorem nt_nkL : ∀ (l : List D) (ks : List NestedKey), nkOfL l = some ks → ntKL ks = true
  | [], _, h => by cases h; rfl
  | d :: r, ks, h => by
    have h : (match nkOf d, nkOfL r with | some a, some b => some (a :: b) | _, _ => none) = some ks := h
    cases e1 : nkOf d with
    | none => rw [e1] at h; cases h
    | some a =>
      cases e2 : nkOfL r with
      | none => rw [e1, e2] at h; cases h
      | some b =>
        rw [e1, e2] at h
        cases h
        show (ntK a && ntKL b) = true
        rw [nt_nk d a e1, nt_nkL r b e2]; rfl
end
section
variable {X : Cx} {pins : List (Addr × Obj)} {σ : L2.St} {H F : Hp} {s : Shared}
mutual
/-- data that is told is the key at its place -/
theorem nested_is (I : Inv X pins σ H s) (sm : Same F H) : ∀ (d : D) (k : NestedKey) (v : V) (u : Value), nkOf d = some k → Rp X.K F d v → RelV v u → NestedIs s.heap k u
  | .non, k, v, u, h, r, rv => by
    cases h
    cases (show v = .non from r)
    cases (show u = .none from rv)
    exact .none
  | .bl b, k, v, u, h, r, rv => by
    cases h
    cases (show v = .bl b from r)
    cases (show u = .bool b from rv)
    exact .bool rfl
  | .int i, k, v, u, h, r, rv => by
    cases h
    cases (show v = .int i from r)
    obtain ⟨t, rfl⟩ := (show ∃ t, u = .int i t from rv)
    exact .int i t
  | .tup l, k, v, u, h, r, rv => by
    have h : (nkOfL l).map NestedKey.tup = some k := h
    cases e : nkOfL l with
    | none => rw [e] at h; cases h
    | some ks =>
      rw [e] at h
      cases h
      obtain ⟨a, xs, rfl, hs, rl⟩ := r
      cases (show u = .ref a from rv)
      obtain ⟨its, rvs, ⟨o, h1, h2, n, h3⟩, _⟩ := I.tuple (same_t sm hs)
      refine .tup h1 h2 h3 ?_
      exact nested_all I sm l ks xs its e rl rvs
  | .str _, _, _, _, h, _, _ => by cases h
  | .lst _, _, _, _, h, _, _ => by cases h
  | .dic _ _, _, _, _, h, _, _ => by cases h
  | .obj _ _ _, _, _, _, h, _, _ => by cases h
  | .raw _, _, _, _, h, _, _ => by cases h
  | .scr _, _, _, _, h, _, _ => by cases h
theorem nested_all (I : Inv X pins σ H s) (sm : Same F H) : ∀ (l : List D) (ks : List NestedKey) (xs : List V) (us : List Value), nkOfL l = some ks → RpL X.K F l xs → Vals xs us → NestedAll s.heap ks us
  | [], _, xs, us, h, r, rv => by
    cases h
    cases (show xs = [] from r)
    cases rv
    exact .nil
  | d :: l, ks, xs, us, h, r, rv => by
    have h : (match nkOf d, nkOfL l with | some a, some b => some (a :: b) | _, _ => none) = some ks := h
    obtain ⟨x, r', rfl, r1, r2⟩ := r
    cases rv with
    | cons q1 q2 =>
      cases e1 : nkOf d with
      | none => rw [e1] at h; cases h
      | some a =>
        cases e2 : nkOfL l with
        | none => rw [e1, e2] at h; cases h
        | some b =>
          rw [e1, e2] at h
          cases h
          exact .cons (nested_is I sm d a x _ e1 r1 q1) (nested_all I sm l b _ _ e2 r2 q2)
end
/-- the dict that is told, as the library has it -/
theorem dk_is (I : Inv X pins σ H s) (sm : Same F H) {p : Addr} {kvs : List (D × D)} {xs : KEnts} (e : H p = some (dkO p xs)) (r : DRel X.K F kvs xs) :
    (p == sysModules) = false ∧ s.heap.DictOfH (nestedKind X.prog X.w) p xs := by
  obtain ⟨⟨h1, h2, h3, o, es, ep, h4, h5, h6, h7⟩, _, _⟩ := (show ObjOk X.prog X.w H s.heap p (dkO p xs) from I.hok p _ e)
  refine ⟨h1, o, es, ep, h4, h5, h6, h7 X.w, ?_, h3⟩
  have all : ∀ {kvs : List (D × D)} {xs : KEnts}, DRel X.K F kvs xs → ∀ x ∈ xs, (nestedKind X.prog X.w).is s.heap x.1 x.2.1 := by
    intro kvs
    induction kvs with
    | nil => intro xs r x hx; rw [show xs = [] from r] at hx; cases hx
    | cons p r ih =>
      intro xs q x hx
      obtain ⟨y, ys, v, rfl, e2, e3, e4, e5, e6, e7⟩ := q
      rcases List.mem_cons.mp hx with rfl | hx
      · exact ⟨nested_is I sm p.1 _ _ _ e2 e4 rfl, e3⟩
      · exact ih e7 x hx
  exact all r
theorem dk_ok {P : Program} {w : World} {H : Hp} {h : Heap} {p : Addr} {xs : KEnts} (hx : dkP p xs h) : ObjOk P w H h p (dkO p xs) := by
  obtain ⟨h1, h2, h3, o, es, ep, h4, h5⟩ := id hx
  refine ⟨hx, ⟨o, h4⟩, ?_⟩
  rintro g1 g2 ⟨h1, h2, h3, o, es, ep, h4, h5⟩ k
  exact ⟨h1, h2, h3, o, es, ep, k _ h4, h5⟩
end
/-! ## what is known of such a dict -/
def sameK (k : NestedKey) (p : D × D) : Bool := decide (nkOf p.1 = some k)
def hasK (kvs : List (D × D)) (k : NestedKey) : Bool := kvs.any (sameK k)
def lookK (kvs : List (D × D)) (k : NestedKey) : Option D := (kvs.find? (sameK k)).map (·.2)
def putD (kvs : List (D × D)) (d v : D) (k : NestedKey) : List (D × D) := if hasK kvs k = true then kvs.map fun p => if sameK k p = true then (p.1, v) else p else kvs ++ [(d, v)]
theorem putD_len (kvs : List (D × D)) (d v : D) (k : NestedKey) : (putD kvs d v k).length ≤ kvs.length + 1 := by
  unfold putD; split <;> simp
section
variable {K : PySem.W.Frag} {F : Hp}
theorem drel_len : ∀ {kvs : List (D × D)} {xs : KEnts}, DRel K F kvs xs → kvs.length = xs.length
  | [], xs, h => by rw [show xs = [] from h]; rfl
  | p :: r, _, ⟨x, ys, v, e, _, _, _, _, _, h⟩ => by rw [e, List.length_cons, List.length_cons, drel_len h]
theorem drel_key : ∀ {kvs : List (D × D)} {xs : KEnts} (k : NestedKey), DRel K F kvs xs → (atKey xs k).isSome = hasK kvs k
  | [], xs, k, h => by rw [show xs = [] from h]; rfl
  | p :: r, _, k, ⟨x, ys, v, e, e1, _, _, _, _, h⟩ => by
    have ih := drel_key k h
    unfold atKey at ih ⊢
    unfold hasK at ih ⊢
    rw [e, List.find?_cons, List.any_cons, ← ih]
    unfold sameK
    rw [e1]
    by_cases c : x.1 = k
    · simp [c]
    · simp [c]
theorem drel_look : ∀ {kvs : List (D × D)} {xs : KEnts} (k : NestedKey) {d : D}, DRel K F kvs xs → lookK kvs k = some d → ∃ y, atKey xs k = some y ∧ ∃ v, Rp K F d v ∧ RelV v y.2
  | [], xs, k, d, h, e => by cases e
  | p :: r, _, k, d, ⟨x, ys, v, e, e1, _, _, e4, e5, h⟩, hd => by
    unfold lookK at hd
    unfold atKey
    rw [e, List.find?_cons]
    rw [List.find?_cons] at hd
    have sk : sameK k p = decide (x.1 = k) := by unfold sameK; rw [e1]; simp
    rw [sk] at hd
    by_cases c : x.1 = k
    · rw [decide_eq_true c] at hd ⊢
      cases hd
      exact ⟨_, rfl, v, e4, e5⟩
    · rw [decide_eq_false c] at hd ⊢
      have := drel_look (kvs := r) (xs := ys) k (d := d) h hd
      exact this
theorem drel_app : ∀ {kvs ls : List (D × D)} {xs ys : KEnts}, DRel K F kvs xs → DRel K F ls ys → DRel K F (kvs ++ ls) (xs ++ ys)
  | [], _, _, _, h, q => by rw [show _ = [] from h]; exact q
  | p :: r, _, _, _, ⟨x, zs, v, e, e1, e2, e3, e4, e5, h⟩, q => by rw [e]; exact ⟨x, _, v, rfl, e1, e2, e3, e4, e5, drel_app h q⟩
theorem drel_set {v : D} {k : NestedKey} {w : V} {u : Value} (hv : Rp K F v w) (hu : RelV w u) : ∀ {kvs : List (D × D)} {xs : KEnts}, DRel K F kvs xs → DRel K F (kvs.map fun p => if sameK k p = true then (p.1, v) else p) (xs.map (putAt k u))
  | [], _, h => by rw [show _ = [] from h]; exact rfl
  | p :: r, _, ⟨x, zs, w', e, e1, e2, e3, e4, e5, h⟩ => by
    have sk : sameK k p = decide (x.1 = k) := by unfold sameK; rw [e1]; simp
    rw [e, List.map_cons, List.map_cons, sk]
    unfold putAt
    by_cases c : x.1 = k
    · rw [if_pos c, decide_eq_true c]
      exact ⟨_, _, w, rfl, e1, e2, e3, hv, hu, drel_set hv hu h⟩
    · rw [if_neg c, decide_eq_false c]
      exact ⟨_, _, w', rfl, e1, e2, e3, e4, e5, drel_set hv hu h⟩
theorem drel_put {kvs : List (D × D)} {xs : KEnts} {d v : D} {k : NestedKey} {a : Addr} {w : V} {u : Value} (h : DRel K F kvs xs) (hk : nkOf d = some k) (hd : k.depth ≤ 8) (rd : Rp K F d (.ref a)) (hv : Rp K F v w) (hu : RelV w u) : DRel K F (putD kvs d v k) (storedH xs k a u) := by
  unfold putD storedH
  rw [drel_key k h]
  cases hasK kvs k with
  | true => rw [if_pos rfl, if_pos rfl]; exact drel_set hv hu h
  | false => rw [if_neg (by simp), if_neg (by simp)]; exact drel_app h ⟨_, _, w, rfl, hk, hd, rd, hv, hu, rfl⟩
end
/-- such a dict, at the address that the data names -/
def asDct (d : D) (M : Mm) (f : Addr → List (D × D) → Prop) : Prop := match d with
  | .raw (.ref a) => match M a with | some (.dct kvs) => f a kvs | _ => False
  | _ => False
theorem asDct_of {d : D} {M : Mm} {f : Addr → List (D × D) → Prop} (h : asDct d M f) : ∃ a kvs, d = .raw (.ref a) ∧ M a = some (.dct kvs) ∧ f a kvs := by
  unfold asDct at h
  split at h
  · rename_i a
    split at h
    · rename_i kvs e
      exact ⟨a, kvs, rfl, e, h⟩
    · exact h.elim
  · exact h.elim
/-- a key that is a tuple of such -/
def asKey (d : D) (f : NestedKey → Prop) : Prop := match d with
  | .tup l => match nkOf (.tup l) with | some k => k.depth ≤ 8 ∧ f k | none => False
  | _ => False
theorem asKey_of {d : D} {f : NestedKey → Prop} (h : asKey d f) : ∃ l k, d = .tup l ∧ nkOf d = some k ∧ k.depth ≤ 8 ∧ f k := by
  unfold asKey at h
  split at h
  · rename_i l
    split at h
    · rename_i k e
      exact ⟨l, k, rfl, e, h⟩
    · exact h.elim
  · exact h.elim
section
variable {K : PySem.W.Frag} {g : Gh} {σ : L2.St} {H : Hp} {ρ : Rho} {M : Mm} {F : Hp} {O : Own} {p : Addr} {o : HO} {mo mo' : Mo}
/-- a new thing that changes -/
theorem Ab.newMo (A : Ab K g σ H ρ M F O) (h : H p = none) (hm : MoOk K F (upd H p o) (fun b => if b = p then some (.obj p) else O b) p mo) : Ab K g σ (upd H p o) ρ (updM M p mo) F (fun b => if b = p then some (.obj p) else O b) := by
  have A1 := A.laid (o := o) h
  have hO := A.o0 h
  have keep : ∀ b u, O b = some u → (if b = p then some (Ow.obj p) else O b) = some u := fun b u e => by rw [if_neg (fun z => by rw [z, hO] at e; cases e)]; exact e
  exact { sub := A1.sub, ext0 := A1.ext0, new := A1.new, frm := A1.frm, thr := A1.thr
          liv := fun b u e => by
            by_cases z : b = p
            · subst z; exact ⟨⟨_, upd_same⟩, A.f0 h, .inr (A.g0 h)⟩
            · rw [if_neg z] at e; exact A1.liv b u e
          slo := fun b u e n => by
            by_cases z : b = p
            · rw [if_pos z] at e; exact absurd (Option.some.inj e).symm (n p)
            · rw [if_neg z] at e; exact A1.slo b u e n
          tm := fun q l e => by
            obtain ⟨xs, e1, e2, e3⟩ := A1.tm q l e
            exact ⟨xs, e1, e2, keep q _ e3⟩
          mu := fun b m e => by
            by_cases z : b = p
            · subst z
              have e' : m = mo := (Option.some.inj ((if_pos rfl).symm.trans (show (if b = b then some mo else M b) = some m from e))).symm
              subst e'
              exact hm
            · have e' : M b = some m := by
                have := e
                unfold updM at this
                rw [if_neg z] at this
                exact this
              exact (A1.mu b m e').mono (Same.refl F) fun q u e1 e2 => ⟨e1, keep q _ e2⟩
          len := A1.len
          sl := fun j sv e => by
            obtain ⟨v, e1, r⟩ := A1.sl j sv e
            exact ⟨v, e1, r.mono (Same.refl F) fun q xs e1 e2 => ⟨e1, keep q _ e2⟩⟩ }
/-- a thing that changes is changed -/
theorem Ab.setMo (A : Ab K g σ H ρ M F O) (hM : M p = some mo) (hO : O p = some (.obj p)) (hm : MoOk K F (upd H p o) O p mo') : Ab K g σ (upd H p o) ρ (updM M p mo') F O := by
  obtain ⟨⟨x, hx⟩, hF, hg⟩ := A.liv p _ hO
  have ne : ∀ b u, O b = some u → u ≠ .obj p → b ≠ p := fun b u e n z => by rw [z, hO] at e; exact n (Option.some.inj e).symm
  exact { sub := fun b u e => by rw [upd_ne (fun z => by rw [z, hF] at e; cases e)]; exact A.sub b u e
          ext0 := A.ext0, new := A.new
          frm := fun b u e n => by
            rw [upd_ne]
            · exact A.frm b u e n
            · intro z
              subst z
              rcases hg with y | y
              · exact n y
              · rw [e] at y; cases y
          thr := fun b u e => by
            by_cases z : b = p
            · subst z; exact ⟨_, upd_same⟩
            · rw [upd_ne z]; exact A.thr b u e
          liv := fun b u e => by
            obtain ⟨r1, r2⟩ := A.liv b u e
            refine ⟨?_, r2⟩
            by_cases z : b = p
            · subst z; exact ⟨_, upd_same⟩
            · rw [upd_ne z]; exact r1
          slo := A.slo
          tm := fun q l e => by
            obtain ⟨xs, e1, e2, e3⟩ := A.tm q l e
            exact ⟨xs, by rw [upd_ne (ne q _ e3 (fun z => by cases z))]; exact e1, e2, e3⟩
          mu := fun b m e => by
            by_cases z : b = p
            · subst z
              have e' : m = mo' := (Option.some.inj ((if_pos rfl).symm.trans (show (if b = b then some mo' else M b) = some m from e))).symm
              subst e'
              exact hm
            · have e' : M b = some m := by
                have := e
                unfold updM at this
                rw [if_neg z] at this
                exact this
              exact (A.mu b m e').mono (Same.refl F) fun q u e1 e2 => ⟨by rw [upd_ne (ne q _ e2 (fun y => z (by cases y; rfl)))]; exact e1, e2⟩
          len := A.len
          sl := fun j sv e => by
            obtain ⟨v, e1, r⟩ := A.sl j sv e
            exact ⟨v, e1, r.mono (Same.refl F) fun q xs e1 e2 => ⟨by rw [upd_ne (ne q _ e2 (fun z => by cases z))]; exact e1, e2⟩⟩ }
end
/-! ## the rules -/
def tNewN : TE := fun _ H Q => ∀ p, H p = none → Q (.ref p) (upd H p (dkO p []))
def rInN (K : PySem.W.Frag) (neg : Bool) : R2 := fun x y H Q => ∃ F p kvs xs d k a, y = .ref p ∧ x = .ref a ∧ Same F H ∧ H p = some (dkO p xs) ∧ DRel K F kvs xs ∧ nkOf d = some k ∧ k.depth ≤ 8 ∧ Rp K F d x ∧ Q (.bl (if neg then !hasK kvs k else hasK kvs k)) H
def rGetN (K : PySem.W.Frag) : R2 := fun y x H Q => ∃ F p kvs xs d k a z, y = .ref p ∧ x = .ref a ∧ Same F H ∧ H p = some (dkO p xs) ∧ DRel K F kvs xs ∧ nkOf d = some k ∧ k.depth ≤ 8 ∧ Rp K F d x ∧ lookK kvs k = some z ∧ ∀ v, Rp K F z v → Q v H
def rSetN (K : PySem.W.Frag) : TSet := fun y x v H Q => ∃ F p kvs xs d k a dv, y = .ref p ∧ x = .ref a ∧ Same F H ∧ H p = some (dkO p xs) ∧ DRel K F kvs xs ∧ nkOf d = some k ∧ k.depth ≤ 8 ∧ Rp K F d x ∧ Rp K F dv v ∧ kvs.length < 1000000 ∧
  ∀ xs', DRel K F (putD kvs d dv k) xs' → Q (upd H p (dkO p xs'))
section
variable {X : Cx} {W : WX} {a b e : Expr} {pa pb pe : PTE} {pos : Pos}
theorem pe_newN : PE X (.Dict [] [] pos) tNewN := ⟨fun pins s σ H Q I h =>
  wpAny_Dict_empty ⟨.ref s.heap.objs.size, _, I.laid (a := s.heap.objs.size) (o := dkO s.heap.objs.size []) (t' := s.toks) (fun _ _ q => Heap.get?_push_of_some _ q) (Nat.le_refl _)
    (dk_ok ⟨beq_eq_false_iff_ne.mpr (Ne.symm (Nat.ne_of_lt I.big)), fun _ z => (nomatch z), List.nodup_nil, _, #[], 0, Heap.get?_push_size _ rfl, ⟨rfl, rfl, rfl⟩, rfl, fun _ => rfl⟩), rfl, h _ (I.hok.fresh (Nat.le_refl _))⟩⟩
theorem room_n {prog : Program} {w : World} {A : Around} (hu : A.units + 9 < cLine) : (nestedKind prog w).room A.in1 := by
  show A.units + 1 + 8 < cLine
  omega
theorem op_inN (hu : X.A.units + 9 < cLine) : OpR X (compareOp .In) (rInN X.K false) := by
  intro pins s σ H x y v u Q I rx ry h
  obtain ⟨F, p, kvs, xs, d, k, c, rfl, rfl, sm, e, dr, hk, hd, rd, q⟩ := h
  cases (show v = .ref c from rx)
  cases (show u = .ref p from ry)
  obtain ⟨z1, z2⟩ := dk_is I sm e dr
  refine wpAny_in_heap (room_n hu) ⟨nested_is I sm d k _ _ hk rd rfl, hd⟩ z1 z2 ?_
  rw [drel_key k dr]
  exact ⟨.bl (hasK kvs k), H, I.tok _, rfl, q⟩
theorem op_notInN (hu : X.A.units + 9 < cLine) : OpR X (compareOp .NotIn) (rInN X.K true) := by
  intro pins s σ H x y v u Q I rx ry h
  obtain ⟨F, p, kvs, xs, d, k, c, rfl, rfl, sm, e, dr, hk, hd, rd, q⟩ := h
  cases (show v = .ref c from rx)
  cases (show u = .ref p from ry)
  obtain ⟨z1, z2⟩ := dk_is I sm e dr
  refine wpAny_notIn_heap (room_n hu) ⟨nested_is I sm d k _ _ hk rd rfl, hd⟩ z1 z2 ?_
  rw [drel_key k dr]
  exact ⟨.bl (!hasK kvs k), H, I.tok _, rfl, q⟩
theorem ix_N (hu : X.A.units + 9 < cLine) : IxR X (rGetN X.K) := by
  intro value slice pins s σ H y x v u Q I ry rx h hs
  obtain ⟨F, p, kvs, xs, d, k, c, z, rfl, rfl, sm, e, dr, hk, hd, rd, hl, q⟩ := h
  cases (show u = .ref c from rx)
  cases (show v = .ref p from ry)
  obtain ⟨z1, z2⟩ := dk_is I sm e dr
  obtain ⟨w, hw, t, rt, rtw⟩ := drel_look k dr hl
  exact subscriptTail_builtinR (x := w.2) z2.typeIs PySem.F.slot_dict_getitem.lookup
    (wpAny_getItem_heap (Q := fun r s' => r = w.2 ∧ EP X pins σ Q r s') (room_n hu) ⟨nested_is I sm d k _ _ hk rd rfl, hd⟩ z2 hw ⟨rfl, t, H, I.tok _, rtw, q t rt⟩) hs
theorem set_N (hu : X.A.units + 9 < cLine) : PSet X (rSetN X.K) := by
  intro pins s σ H y x v ov iv u Q I ry rx rv h
  obtain ⟨F, p, kvs, xs, d, k, c, dv, rfl, rfl, sm, e, dr, hk, hd, rd, rdv, hl, q⟩ := h
  cases (show iv = .ref c from rx)
  cases (show ov = .ref p from ry)
  obtain ⟨z1, z2⟩ := dk_is I sm e dr
  have hz : xs.length ≤ sizeLine := by rw [← drel_len dr]; exact Nat.le_trans (Nat.le_of_lt hl) (by decide)
  refine wpAny_setItem_heap (hsz := hz) (room_n hu) ⟨nested_is I sm d k _ _ hk rd rfl, hd⟩ z2 fun h' dd' hs => ?_
  obtain ⟨o, es, ep, hq, h2, h3, h4, h6, h5⟩ := dd'
  have dr' := drel_put dr hk hd rd rdv rv
  refine ⟨upd H p (dkO p (storedH xs k c u)), d_write I (by rw [e]; exact True.intro) hs ⟨o, hq⟩ (dk_ok ⟨z1, ?_, h5, o, es, ep, hq, h2, h3, fun w' => ?_⟩), q _ dr'⟩
  · have all : ∀ {kvs : List (D × D)} {xs : KEnts}, DRel X.K F kvs xs → ∀ x ∈ xs, ntK x.1 = true := by
      intro kvs
      induction kvs with
      | nil => intro xs r x hx; rw [show xs = [] from r] at hx; cases hx
      | cons p r ih =>
        intro xs q x hx
        obtain ⟨y, ys, v, rfl, e2, e3, e4, e5, e6, e7⟩ := q
        rcases List.mem_cons.mp hx with rfl | hx
        · exact nt_nk _ _ e2
        · exact ih e7 x hx
    exact all dr'
  · have all : ∀ {kvs : List (D × D)} {xs : KEnts}, DRel X.K F kvs xs → ∀ x ∈ xs, ntK x.1 = true := by
      intro kvs
      induction kvs with
      | nil => intro xs r x hx; rw [show xs = [] from r] at hx; cases hx
      | cons p r ih =>
        intro xs q x hx
        obtain ⟨y, ys, v, rfl, e2, e3, e4, e5, e6, e7⟩ := q
        rcases List.mem_cons.mp hx with rfl | hx
        · exact nt_nk _ _ e2
        · exact ih e7 x hx
    rw [h4]
    refine List.map_congr_left fun y hy => ?_
    show (⟨y.1.hash X.w, .ref y.2.1, y.2.2⟩ : DictEntry) = _
    rw [hash_nt X.w w' _ (all dr' y hy)]
/-! ### readings -/
def dNewN : PTE := fun _ _ M q => ∀ a, M a = none → q (.raw (.ref a)) (updM M a (.dct []))
theorem de_newN : DE X W (.Dict [] [] pos) dNewN := pe_imp pe_newN fun σ H Q ⟨g, ρ, M, F, O, q, w, A, p, hw, k⟩ => fun c hc => by
  have A2 := A.newMo (o := dkO c []) (mo := .dct []) hc ⟨[], upd_same, if_pos rfl, Nat.zero_le _, rfl⟩
  exact k (.ref c) _ F _ _ (.raw (.ref c)) A2 (Same.refl F) rfl (p c (A.m0 hc))
def dInN (neg : Bool) (pa pb : PTE) : PTE := fun w ρ M q => pa w ρ M fun x M1 => pb w ρ M1 fun y M2 => asDct y M2 fun _ kvs => asKey x fun k => q (.bl (if neg then !hasK kvs k else hasK kvs k)) M2
theorem Vw.tupR {K : PySem.W.Frag} {σ : L2.St} {ρ : Rho} {F : Hp} {l : List D} {v : V} (h : Vw K σ ρ F (.tup l) v) : Rp K F (.tup l) v := by
  rcases h with h | ⟨_, _, _, _, _, _, h⟩
  · exact h
  · cases h
theorem Vw.rawR {K : PySem.W.Frag} {σ : L2.St} {ρ : Rho} {F : Hp} {u v : V} (h : Vw K σ ρ F (.raw u) v) : v = u := by
  rcases h with h | ⟨_, _, _, _, _, _, h⟩
  · exact h
  · cases h
theorem inN_run {neg : Bool} {σ : L2.St} {H : Hp} {Q : VK} (h : real X.K W (dInN neg pa pb) σ H Q) : tOp (rInN X.K neg) (realO X.K W pa) (realO X.K W pb) σ H Q := by
  obtain ⟨g, ρ, M, F, O, q, w, A, p, hw, k⟩ := h
  refine ⟨g, ρ, M, F, O, _, w, A, p, hw, fun v H1 F1 O1 M1 d A1 s1 r1 q1 => ⟨g, ρ, M1, F1, O1, _, w, A1, q1, hw.mono s1, fun u H2 F2 O2 M2 y A2 s2 r2 q2 => ?_⟩⟩
  obtain ⟨c, kvs, rfl, hM, q3⟩ := asDct_of q2
  obtain ⟨l, nk, rfl, hk, hd, q4⟩ := asKey_of q3
  obtain ⟨xs, e1, e2, e3, e4⟩ := A2.mu c _ hM
  have rt := (r1.mono s2).tupR
  obtain ⟨b, ys, eb, _⟩ := id rt
  exact ⟨F2, c, kvs, xs, .tup l, nk, b, r2.rawR, eb, A2.sub, e1, e4, hk, hd, rt, k _ H2 F2 O2 M2 (.bl (if neg then !hasK kvs nk else hasK kvs nk)) A2 (s1.trans s2) rfl q4⟩
theorem de_inN (hu : X.A.units + 9 < cLine) (ha : DO X W a pa) (hb : DO X W b pb) (hm : behindInMarks .In b = false := by rfl) : DE X W (.Compare a [.In] [b] pos) (dInN false pa pb) := pe_imp (pe_cmpR (op_inN hu) ha hb hm) fun σ H Q h => inN_run h
theorem de_notinN (hu : X.A.units + 9 < cLine) (ha : DO X W a pa) (hb : DO X W b pb) (hm : behindInMarks .NotIn b = false := by rfl) : DE X W (.Compare a [.NotIn] [b] pos) (dInN true pa pb) := pe_imp (pe_cmpR (op_notInN hu) ha hb hm) fun σ H Q h => inN_run h
theorem dt_inN (hu : X.A.units + 9 < cLine) (ha : DO X W a pa) (hb : DO X W b pb) (hm : behindInMarks .In b = false := by rfl) : DT X W (.Compare a [.In] [b] pos) (dTst (dInN false pa pb)) :=
  pt_imp (pt_cmpR (op_inN hu) ha hb hm) fun σ H Q h => tst_run (t := tOp (rInN X.K false) (realO X.K W pa) (realO X.K W pb)) (fun _ _ _ h => inN_run h) h
theorem dt_notinN (hu : X.A.units + 9 < cLine) (ha : DO X W a pa) (hb : DO X W b pb) (hm : behindInMarks .NotIn b = false := by rfl) : DT X W (.Compare a [.NotIn] [b] pos) (dTst (dInN true pa pb)) :=
  pt_imp (pt_cmpR (op_notInN hu) ha hb hm) fun σ H Q h => tst_run (t := tOp (rInN X.K true) (realO X.K W pa) (realO X.K W pb)) (fun _ _ _ h => inN_run h) h
def dGetN (pb pa : PTE) : PTE := fun w ρ M q => pb w ρ M fun y M1 => pa w ρ M1 fun x M2 => asDct y M2 fun _ kvs => asKey x fun k => ∃ z, lookK kvs k = some z ∧ q z M2
theorem de_getN (hu : X.A.units + 9 < cLine) (hb : DO X W b pb) (ha : DO X W a pa) (hs : PlainIx a := by exact fun _ _ => rfl) : DE X W (.Subscript b a pos) (dGetN pb pa) := pe_imp (pe_ix (ix_N hu) hb ha hs) fun σ H Q ⟨g, ρ, M, F, O, q, w, A, p, hw, k⟩ => by
  refine ⟨g, ρ, M, F, O, _, w, A, p, hw, fun v H1 F1 O1 M1 y A1 s1 r1 q1 => ⟨g, ρ, M1, F1, O1, _, w, A1, q1, hw.mono s1, fun u H2 F2 O2 M2 d A2 s2 r2 q2 => ?_⟩⟩
  obtain ⟨c, kvs, rfl, hM, q3⟩ := asDct_of q2
  obtain ⟨l, nk, rfl, hk, hd, z, hz, q4⟩ := asKey_of q3
  obtain ⟨xs, e1, e2, e3, e4⟩ := A2.mu c _ hM
  have rt := r2.tupR
  obtain ⟨b', ys, eb, _⟩ := id rt
  exact ⟨F2, c, kvs, xs, .tup l, nk, b', z, (r1.mono s2).rawR, eb, A2.sub, e1, e4, hk, hd, rt, hz, fun v rv => k _ H2 F2 O2 M2 _ A2 (s1.trans s2) rv q4⟩
def dPutN (pv pb pa : PTE) : PTS := fun w P ρ M => pv w ρ M fun v M1 => pb w ρ M1 fun y M2 => pa w ρ M2 fun x M3 => asDct y M3 fun c kvs => asKey x fun k => kvs.length < 1000000 ∧ P.nx ρ (updM M3 c (.dct (putD kvs x v k)))
theorem ds_putN {pt : Pos} (hu : X.A.units + 9 < cLine) (he : DE X W e pe) (hb : DO X W b pb) (ha : DO X W a pa) (hs : swapsWithSole [.Subscript b a pt] e pos.line X.env = pure false := by rfl) (hw : swappedStores [.Subscript b a pt] e X.env = pure none := by rfl)
    (hA : ∀ v, assign (.Subscript b a pt) X.env v = (do
      let ov ← holding [v] (eval b X.env)
      let iv ← holding [v, ov] (eval a X.env)
      standAt pt
      holding [v, ov, iv] (setItem ov iv v)
      release [v, ov, iv] []) := by intro _; rfl) : DS X W (.Assign [.Subscript b a pt] e pos) (dPutN pe pb pa) := by
  refine ps_imp (ps_asg he (pg_sub hb ha (set_N hu) hA) hs hw) fun D σ H ⟨g, ρ, M, F, O, P, w, A, h, hw, k1, k2, k3, k4⟩ => ?_
  refine ⟨g, ρ, M, F, O, _, w, A, h, hw, fun v H1 F1 O1 M1 dv A1 s1 r1 q1 => ⟨g, ρ, M1, F1, O1, _, w, A1, q1, hw.mono s1, fun y' H2 F2 O2 M2 y A2 s2 r2 q2 => ⟨g, ρ, M2, F2, O2, _, w, A2, q2, (hw.mono s1).mono s2, fun x' H3 F3 O3 M3 x A3 s3 r3 q3 => ?_⟩⟩⟩
  obtain ⟨c, kvs, rfl, hM, q3⟩ := asDct_of q3
  obtain ⟨l, nk, rfl, hk, hd, hl, q4⟩ := asKey_of q3
  obtain ⟨xs, e1, e2, e3, e4⟩ := A3.mu c _ hM
  have rt := r3.tupR
  obtain ⟨b', ys, eb, _⟩ := id rt
  refine ⟨F3, c, kvs, xs, .tup l, nk, b', dv, (r2.mono s3).rawR, eb, A3.sub, e1, e4, hk, hd, rt, Rp.mono (s2.trans s3) _ _ r1, hl, fun xs' dr' => ?_⟩
  have A4 := A3.setMo (o := dkO c xs') (mo' := .dct (putD kvs (.tup l) dv nk)) hM e2 ⟨xs', upd_same, e2, by have := putD_len kvs (.tup l) dv nk; omega, dr'⟩
  exact k1 σ _ ρ _ F3 O3 A4 ((s1.trans s2).trans s3) q4
end
theorem hu9 {A : Around} {k : Nat} (hr : Room k A) : A.units + 9 < cLine := by have := hr.units; omega
end Px

set_option Elab.async false
set_option linter.all false
set_option maxRecDepth 100000
namespace Px
open PySem PySem.Spec PyProof.Rows L2
/-! # defs that return a new list: who calls them may change it -/
abbrev PSpL := List D → Mm → (List D → Mm → Prop) → PX → Prop
def toSpL (K : PySem.W.Frag) (n : Nat) (sp : PSpL) : Sp := fun vs H Q E => ∃ g F M O ds q e, vs.length = n ∧ Wd K g H M F O ∧ RpL K F ds vs ∧ sp ds M q e ∧
  (∀ a xs H' F' O' M' ls, Aft K H F O H' M' F' O' → H' a = some (.lst xs) → RpL K F' ls xs → F' a = none → O' a = none → H a = none → q ls M' → Q (.ref a) H') ∧
  (∀ cls dd H' F' O' M' fs, Aft K H F O H' M' F' O' → ExOk K F' dd fs → e cls fs M' → E cls dd H')
theorem toSpL_len {K : PySem.W.Frag} {n : Nat} {sp : PSpL} {vs : List V} {H : Hp} {Q : VK} {E : XK} (h : toSpL K n sp vs H Q E) : vs.length = n := by
  obtain ⟨_, _, _, _, _, _, _, e, _⟩ := h
  exact e
def ShowsL (sp : PSpL) (N : Nat) (p : PTS) : Prop := ∀ ds M q e, sp ds M q e →
  p (fun cls fs _ M' => ∃ M2, MLe M2 M' ∧ e cls fs M2) { nx := fun _ _ => False, rt := fun _ _ => False, rl := fun l M' => ∃ M2, MLe M2 M' ∧ q l M2 } (startR N ds) M
theorem objs_none {O : Own} {a : Addr} (h : O a = none) : objs O a = none := by
  unfold objs
  rw [h]
section
variable {P : Program} {w : World} {K : PySem.W.Frag} {mg : Str → Option Value} {base : Heap} {k : Nat} {f : Addr} {fd : FuncData} {ps N : List Str}
theorem Fun.pokL {x qual : Str} {stm : Stmt} {n : Nat} {sp : PSpL} {p : PTS} (Fn : L2.Fun K x qual stm f fd) (S : FnScope N ps (defScope stm)) (hn : ps.length = n) (hs : ShowsL sp N.length p)
    (hbody : ∀ (cdv : Value) (A : Around) (outer : List Env) (s : Shared) (H : Hp) (E : XK), Room k (A.deeper (envOfC qual (defScope stm) s.heap.objs.size f cdv)) → A.guards = some [] →
      DSs (cxOf (L2.CX P w) P w K mg base N qual (defScope stm) f cdv A outer s H E) (WE E) (defBody stm) p) :
    FnG P w K mg base (k + 1) f fd ps (toSpL K n sp) := by
  refine Fun.gok Fn S (fun vs H Q E h => by rw [toSpL_len h, hn]) fun cdv A outer s H vs Q E hr hG hsp => ⟨_, hbody cdv A outer s H E hr hG, ?_⟩
  obtain ⟨g, F, M, O, ds, q, e, _, A0, rp, hsp, hQ, hE⟩ := hsp
  refine ⟨_, _, _, _, _, _, _, A0.enter (N := N) rp, hs ds M q e hsp, ?_, ?_, ?_, ?_, ?_, ?_⟩
  · intro cls dd σ' H' ρ' M' F' O' fs A2 s2 x2 ⟨M2, h1, h2⟩
    exact hE cls dd H' F' _ M2 fs (A2.leave h1) x2 h2
  · intro σ' H' ρ' M' F' O' A2 s2 z; exact z.elim
  · intro v σ' H' ρ' M' F' O' d A2 s2 r2 z; exact z.elim
  · intro σ' H' ρ' M' F' O' A2 s2 z; exact z.elim
  · intro σ' H' ρ' M' F' O' A2 s2 z; exact z.elim
  · intro a xs σ' H' ρ' M' F' O' ls A2 s2 e1 e2 e3 e4 e5 ⟨M2, h1, h2⟩
    exact hQ a xs H' F' _ M2 ls (A2.leave h1) e1 e2 e3 (objs_none e4) e5 h2
end
section
variable {X : Cx} {W : WX} {k n : Nat} {f : Addr} {fd : FuncData} {ps ks : List Str} {sp : PSpL} {x : Str} {p pos : Pos} {e : Expr} {es : List Expr} {pl : PTA} {ds : List Value} {dd : List D} {dvs : List V} {kws : List Keyword} {ix : List Nat} {i : Nat}
def dCallL (sp : PSpL) (pl : PTA) : PTA := fun w ρ M q => pl w ρ M fun ds M1 => sp ds M1 q fun cls fs M2 => w cls fs ρ M2
def dCallLK (sp : PSpL) (ix : List Nat) (pl : PTA) : PTA := fun w ρ M q => pl w ρ M fun ds M1 => sp (pick ix ds) M1 q fun cls fs M2 => w cls fs ρ M2
theorem call_readingL {K : PySem.W.Frag} {g : Gh} {σ : L2.St} {H : Hp} {ρ : Rho} {M : Mm} {F : Hp} {O : Own} {w : PWi} {q : List D → Mm → Prop} {ds : List D} {vs : List V} {Q : VK} (A : Ab K g σ H ρ M F O) (hw : WOk K g F W w)
    (r : RpL K F ds vs) (hl : ds.length = n) (h : sp ds M q fun cls fs M2 => w cls fs ρ M2)
    (k : ∀ a xs H' F' O' M' ls, Ab K g σ H' ρ M' F' O' → Same F F' → H' a = some (.lst xs) → RpL K F' ls xs → F' a = none → O' a = none → g.H0 a = none → q ls M' → Q (.ref a) H') :
    toSpL K n sp vs H Q fun cls d H' => W cls d σ H' := by
  refine ⟨g, F, M, O, ds, q, _, by rw [← hl, r.len], A.toWd, r, h, fun a xs H' F' O' M' ls B e1 e2 e3 e4 e5 hq => ?_, fun cls dd H' F' O' M' fs B x hq => ?_⟩
  · obtain ⟨O2, A2, s, hO⟩ := A.after2 B
    exact k a xs H' F' O2 M' ls A2 s e1 e2 e3 (by rw [hO a (A.o0 e5)]; exact e4) (A.g0 e5) hq
  · obtain ⟨O2, A2, s⟩ := A.after B
    exact hw cls dd σ H' ρ M' F' O2 fs A2 s x hq
theorem dl_callL (Fg : FnG X.prog X.w X.K X.mg X.base k f fd ps (toSpL X.K n sp)) (hn : ps.length = n) (hlen : ∀ ds M q e, sp ds M q e → ds.length = n) (hr : Room k X.A) (hG : X.A.guards = some []) (hg : Gl X x) (hm : X.mg x = some (.ref f))
    (hk : PySem.W.keepIn X.K (.ref f) = true) (hb : Binds X.K fd ps []) (tk : Takes X W) (ha : DA X W (e :: es) pl) (hdb : (x == ("__debug__" : Str)) = false := by decide)
    (he : starEach (e :: es) X.env = (false, eval e X.env) :: starEach es X.env := by rfl) (hpl : (backTo pos (starEach es X.env)).any (·.1) = false := by rfl) : DL X W (.Call (.Name x p) (e :: es) [] pos) (dCallL sp pl) := by
  refine ⟨fun pins s σ H Q I ⟨g, ρ, M, F, O, q, w, A, pr, hw, k⟩ => ?_⟩
  refine wpAny_Call_Name_kw (ld_glob I hg hm ?_ hdb)
  refine PySem.W.callWith_K (h₀ := X.base) I.ok.mod.kin hk (thn (ha.run pos pins s σ H (fun vs H1 => toSpL X.K n sp vs H1 Q fun cls d H' => W cls d σ H') I ?_) fun us s1 hh => ?_) he hpl
  · exact ⟨g, ρ, M, F, O, _, w, A, pr, hw, fun vs H1 F1 O1 M1 d1 A1 s1 r1 q1 => call_readingL A1 (hw.mono s1) r1 (hlen _ _ _ _ q1) q1 fun a xs H2 F2 O2 M2 ls A2 s2 e1 e2 e3 e4 e5 q2 => k a xs H2 F2 O2 M2 ls A2 (s1.trans s2) e1 e2 e3 e4 e5 q2⟩
  · obtain ⟨vs, H1, I1, r, q1⟩ := hh
    refine ⟨I1.kIn, ?_⟩
    have := run_g (dvs := []) Fg hr hG hb .nil tk I1 r (by rw [List.append_nil]; exact q1)
    exact this
theorem dl_callLK (Fg : FnG X.prog X.w X.K X.mg X.base k f fd ps (toSpL X.K n sp)) (hn : ps.length = n) (hlen : ∀ ds M q e, sp ds M q e → ds.length = n) (hr : Room k X.A) (hG : X.A.guards = some []) (hg : Gl X x) (hm : X.mg x = some (.ref f))
    (hk : PySem.W.keepIn X.K (.ref f) = true) (hb : KwB fd ps ks ix) (tk : Takes X W) (ha : DK X W kws pl)
    (hall : (backToKw pos (keywordEach kws X.env)).all (·.1.isSome) = true := by rfl) (hks : (backToKw pos (keywordEach kws X.env)).filterMap (·.1) = ks := by rfl) (hdb : (x == ("__debug__" : Str)) = false := by decide)
    (hpl : ((backTo pos (starEach [] X.env)).any (·.1) || (backToKw pos (keywordEach kws X.env)).any (·.1.isNone)) = false := by rfl) : DL X W (.Call (.Name x p) [] kws pos) (dCallLK sp ix pl) := by
  refine ⟨fun pins s σ H Q I ⟨g, ρ, M, F, O, q, w, A, pr, hw, kk⟩ => ?_⟩
  refine wpAny_Call_Name_kw (ld_glob I hg hm ?_ hdb)
  refine PySem.W.callWith_KW0 (h₀ := X.base) I.ok.mod.kin hk hall (thn (ha.run pos pins s σ H (fun vs H1 => toSpL X.K n sp (pick ix vs) H1 Q fun cls d H' => W cls d σ H') I ?_) fun us s1 hh => ?_) hpl
  · exact ⟨g, ρ, M, F, O, _, w, A, pr, hw, fun vs H1 F1 O1 M1 d1 A1 s1 r1 q1 => call_readingL A1 (hw.mono s1) (rpl_pick r1 ix) (hlen _ _ _ _ q1) q1 fun a xs H2 F2 O2 M2 ls A2 s2 e1 e2 e3 e4 e5 q2 => kk a xs H2 F2 O2 M2 ls A2 (s1.trans s2) e1 e2 e3 e4 e5 q2⟩
  · obtain ⟨vs, H1, I1, r, q1⟩ := hh
    refine ⟨I1.kIn, ?_⟩
    rw [hks]
    have r2 := vals_pick r ix
    have hl : (pick ix us).length = ps.length := by rw [← r2.length]; exact Fg.len _ _ _ _ q1
    refine wpAny_call (codeAny_mono (Fg.run X.A X.stack s1 H1 ⟨[], ks.zip us⟩ (pick ix us) (pick ix vs) Q _ hr hG I1.env0 (hb s1 us hl) r2 q1) fun r s' hq => ?_)
    cases r with
    | error e => exact tk e s' (XE.of_call I1 (fun _ _ _ h => h) hq)
    | ok fl =>
      cases fl with
      | ret u => exact I1.after hq
      | next => exact hq.elim
      | brk => exact hq.elim
      | cont => exact hq.elim
/-- return of a new list -/
def dRetL (pl : PTA) : PTS := fun w P ρ M => pl w ρ M P.rl
theorem ds_retL (h : DL X W e pl) : DS X W (.Return (some e) pos) (dRetL pl) := ps_imp (ps_ret h) fun D σ H ⟨g, ρ, M, F, O, P, w, A, h, hw, k1, k2, k3, k4, k5⟩ =>
  ⟨g, ρ, M, F, O, _, w, A, h, hw, fun a xs H' F' O' M' ls A' s e1 e2 e3 e4 e5 q => k5 a xs σ H' ρ M' F' O' ls A' s e1 e2 e3 e4 e5 q⟩
/-- return of the list that a slot holds alone -/
def dRetOwn (i : Nat) : PTS := fun _ P ρ M => match gt ρ i with | some (.own l) => P.rl l M | _ => False
/-- the slot's list is nobody's -/
theorem Ab.drop {K : PySem.W.Frag} {g : Gh} {σ : L2.St} {H : Hp} {ρ : Rho} {M : Mm} {F : Hp} {O : Own} {ds : List D} (A : Ab K g σ H ρ M F O) (hi : gt ρ i = some (.own ds)) :
    ∃ l xs O', σ[i]? = some (some (.ref l)) ∧ H l = some (.lst xs) ∧ RpL K F ds xs ∧ F l = none ∧ O' l = none ∧ g.H0 l = none ∧ Ab K g σ H (un ρ i) M F O' := by
  obtain ⟨v, e1, l, xs, rfl, e3, e4, e5⟩ := A.sl i _ hi
  obtain ⟨_, hFl, _⟩ := A.liv l _ e5
  have h0l : g.H0 l = none := A.slo l _ e5 (fun _ z => by cases z)
  refine ⟨l, xs, fun b => if b = l then none else O b, e1, e3, e4, hFl, if_pos rfl, h0l, ?_⟩
  have keep : ∀ b u, O b = some u → u ≠ .slot i → (if b = l then none else O b) = some u := fun b u e n => by
    rw [if_neg]
    · exact e
    · intro z
      rw [z, e5] at e; exact n (Option.some.inj e).symm
  exact { sub := A.sub, ext0 := A.ext0, new := A.new, frm := A.frm, thr := A.thr
          liv := fun b u e => by
            by_cases z : b = l
            · rw [if_pos z] at e; cases e
            · rw [if_neg z] at e; exact A.liv b u e
          slo := fun b u e n => by
            by_cases z : b = l
            · rw [if_pos z] at e; cases e
            · rw [if_neg z] at e; exact A.slo b u e n
          tm := fun q l2 e => by
            obtain ⟨ys, e1, e2, e3⟩ := A.tm q l2 e
            exact ⟨ys, e1, e2, keep q _ e3 (fun z => by cases z)⟩
          mu := fun b m e => (A.mu b m e).mono (Same.refl F) fun q u e1 e2 => ⟨e1, keep q _ e2 (fun z => by cases z)⟩
          len := by rw [un_len]; exact A.len
          sl := fun j sv e => by
            by_cases z : j = i
            · subst z; rw [gt_un_self] at e; cases e
            · rw [gt_un_ne z] at e
              obtain ⟨v, e1, r⟩ := A.sl j sv e
              exact ⟨v, e1, r.mono (Same.refl F) fun q xs e1 e2 => ⟨e1, keep q _ e2 (fun y => z (by cases y; rfl))⟩⟩ }
theorem ds_retOwn (i : Nat) {x : Str} {p2 : Pos} (hN : X.N[i]? = some x := by rfl) (hv : Vis X.env.scope x := by first | exact Or.inl rfl | exact Or.inr (Or.inl rfl) | exact Or.inr (Or.inr rfl)) (hd : (x == ("__debug__" : Str)) = false := by decide)
    (hcd : (x == ("__classdict__" : Str)) = false := by decide) : DS X W (.Return (some (.Name x p2)) pos) (dRetOwn i) := ps_imp (ps_ret (pv i hN hv hd hcd)) fun D σ H ⟨g, ρ, M, F, O, P, w, A, h, hw, k1, k2, k3, k4, k5⟩ => by
  unfold dRetOwn at h
  split at h
  · rename_i ls e
    obtain ⟨l, xs, O', e1, e2, e3, e4, e5, e6, A'⟩ := A.drop e
    exact ⟨.ref l, e1, k5 l xs σ H _ M F O' ls A' (Same.refl F) e2 e3 e4 e5 e6 h⟩
  · exact h.elim
end
end Px

set_option Elab.async false
set_option linter.all false
set_option maxRecDepth 100000
namespace Px
open PySem PySem.Spec PyProof.Rows L2
/-! # bands: pure readings -/
theorem mulx_small {i j : Int} (h0 : -(10 ^ 60) ≤ i) (h1 : i ≤ 10 ^ 60) (h2 : -(10 ^ 60) ≤ j) (h3 : j ≤ 10 ^ 60) : CMulX i j :=
  cmul_of (a := 300) (b := 300) (Nat.lt_of_le_of_lt (show i.natAbs ≤ 10 ^ 60 by omega) (by decide)) (Nat.lt_of_le_of_lt (show j.natAbs ≤ 10 ^ 60 by omega) (by decide)) (by decide)
theorem log_sm {n : Int} (h0 : 0 ≤ n) (h : n ≤ 10 ^ 60) : n.natAbs.log2 < 9000 := log_small h0 (Int.le_trans h (by decide))
theorem Bd.sm {n : Int} (h0 : 0 ≤ n) (h : n ≤ 10 ^ 60) : Bd n := Bd.small (by omega) (Int.le_trans h (by decide))
theorem eqD_bl (a b : Bool) : eqD (.bl a) (.bl b) = (a == b) := by cases a <;> cases b <;> rfl
/-- a size that all laws' numbers keep -/
def Sz (i : Int) : Prop := -(10 ^ 60) ≤ i ∧ i ≤ 10 ^ 60
theorem Sz.mul {i j : Int} (h : Sz i) (h' : Sz j) : CMulX i j := mulx_small h.1 h.2 h'.1 h'.2
theorem Sz.of {i : Int} (h : -(10 ^ 59) ≤ i) (h' : i ≤ 10 ^ 59) : Sz i := ⟨by omega, by omega⟩
theorem Sz.div {i : Int} (h : Sz i) (h0 : 0 < i) (j : Int) : CDivW j i := (Bd.sm (by omega) h.2).div h0 j
theorem sz_lit {i : Int} (h : -1000000 ≤ i := by decide) (h' : i ≤ 1000000 := by decide) : Sz i := ⟨by omega, by omega⟩
theorem sz2 : Sz 2 := sz_lit
theorem Bd.mul' {i j : Int} (h : Sz i) (h' : Sz j) : Bd (i * j) := by
  have a1 : i.natAbs ≤ 10 ^ 60 := by have := h.1; have := h.2; omega
  have a2 : j.natAbs ≤ 10 ^ 60 := by have := h'.1; have := h'.2; omega
  unfold Bd
  rw [Int.natAbs_mul]
  have e : i.natAbs * j.natAbs ≤ 10 ^ 60 * 10 ^ 60 := Nat.mul_le_mul a1 a2
  exact Nat.lt_of_le_of_lt e (Nat.lt_of_lt_of_le (show 10 ^ 60 * 10 ^ 60 < 2 ^ 450 by decide) (Nat.pow_le_pow_right (by decide) (by decide)))
/-- a pair of ints -/
def asP (d : D) (k : Int → Int → Prop) : Prop := match d with | .tup [.int x, .int y] => k x y | _ => False
theorem asP_of {d : D} {k : Int → Int → Prop} (h : asP d k) : ∃ x y, d = .tup [.int x, .int y] ∧ k x y := by
  unfold asP at h
  split at h
  · exact ⟨_, _, rfl, h⟩
  · exact h.elim
abbrev prD (p : Int × Int) : D := .tup [.int p.1, .int p.2]
/-! ## the program's -/
def sp_is_below (C : Cl) : PSp := fun ds M q _ => ar2 ds fun a b => asP a fun x y => asP b fun u v => (Sz x ∧ Sz y ∧ Sz u ∧ Sz v) ∧ q (.bl (decide (x * v < u * y))) M
def rd_is_below (C : Cl) : PTS := (dRet (dOp fLt (dOp fMul (dOp fIx (dVar 0) (dC (.int 0))) (dOp fIx (dVar 1) (dC (.int 1)))) (dOp fMul (dOp fIx (dVar 1) (dC (.int 0))) (dOp fIx (dVar 0) (dC (.int 1))))))
theorem sh_is_below (C : Cl) : Shows (sp_is_below C) 2 (rd_is_below C) := by
  intro ds M q e h
  obtain ⟨a, b, rfl, h⟩ := ar2_of h
  obtain ⟨x, y, rfl, h⟩ := asP_of h
  obtain ⟨u, v, rfl, ⟨h1, h2, h3, h4⟩, hq⟩ := asP_of h
  exact ⟨_, rfl, _, rfl, h1.mul h4, _, rfl, _, rfl, h3.mul h2, M, MLe.refl M, hq⟩
def sp_greater (C : Cl) : PSp := fun ds M q _ => ar2 ds fun a b => asP a fun x y => asP b fun u v => (Sz x ∧ Sz y ∧ Sz u ∧ Sz v) ∧ ∀ d, d = (if x * v < u * y then .tup [.int u, .int v] else .tup [.int x, .int y]) → q d M
def rd_greater (C : Cl) : PTS := (dRet (dIf (dTst (dCall (sp_is_below C) [] (dCons (dVar 0) (dCons (dVar 1) dNil)))) (dVar 1) (dVar 0)))
theorem sh_greater (C : Cl) : Shows (sp_greater C) 2 (rd_greater C) := by
  intro ds M q e h
  obtain ⟨a, b, rfl, h⟩ := ar2_of h
  obtain ⟨x, y, rfl, h⟩ := asP_of h
  obtain ⟨u, v, rfl, hs, hq⟩ := asP_of h
  have hq := hq _ rfl
  refine ⟨hs, ?_⟩
  by_cases c : x * v < u * y
  · rw [if_pos c] at hq
    exact itT (decide_eq_true c) ⟨M, MLe.refl M, hq⟩
  · rw [if_neg c] at hq
    exact itF (decide_eq_false c) ⟨M, MLe.refl M, hq⟩
def sp_moved (C : Cl) : PSp := fun ds M q _ => ar3 ds fun n g t => asI n fun n => asP g fun x y => asI t fun t => (Sz n ∧ Sz x ∧ Sz y ∧ Sz t ∧ 0 < y ∧ 0 ≤ n * y + t * x) ∧ q (spd (n * y + t * x) y) M
def rd_moved (C : Cl) : PTS := (dRet (dCall (sp_lowest C) [] (dCons (dOp fAdd (dOp fMul (dVar 0) (dOp fIx (dVar 1) (dC (.int 1)))) (dOp fMul (dVar 2) (dOp fIx (dVar 1) (dC (.int 0))))) (dCons (dOp fIx (dVar 1) (dC (.int 1))) dNil))))
theorem sh_moved (C : Cl) : Shows (sp_moved C) 3 (rd_moved C) := by
  intro ds M q e h
  obtain ⟨a, b, c, rfl, h⟩ := ar3_of h
  obtain ⟨n, rfl, h⟩ := asI_of h
  obtain ⟨x, y, rfl, h⟩ := asP_of h
  obtain ⟨t, e1, ⟨h1, h2, h3, h4, h5, h6⟩, hq⟩ := asI_of h
  subst e1
  exact ⟨_, rfl, h1.mul h3, _, rfl, h4.mul h2, _, rfl, h6, h5, Bd.sm (by omega) h3.2, M, MLe.refl M, hq⟩
/-- how many times the rate goes into the band -/
def foldV (l h a b : Int) : Option Int := if (l * b / a + 1) * a < h * b then some (l * b / a + 1) else none
def optI : Option Int → D
  | some t => .int t
  | none => .non
/-- a rate -/
def RtOk (a b : Int) : Prop := 0 < a ∧ a ≤ 10 ^ 30 ∧ 0 < b ∧ b ≤ 10 ^ 30
theorem RtOk.sa {a b : Int} (h : RtOk a b) : Sz a := ⟨by have := h.1; omega, by have := h.2.1; omega⟩
theorem RtOk.sb {a b : Int} (h : RtOk a b) : Sz b := ⟨by have := h.2.2.1; omega, by have := h.2.2.2; omega⟩
def EnOk (i : Int) : Prop := -5000 ≤ i ∧ i ≤ 5000
theorem EnOk.sz {i : Int} (h : EnOk i) : Sz i := ⟨by have := h.1; omega, by have := h.2; omega⟩
theorem en_mul {i b : Int} (h : EnOk i) (h0 : 0 < b) (h1 : b ≤ 10 ^ 30) : -(5000 * 10 ^ 30) ≤ i * b ∧ i * b ≤ 5000 * 10 ^ 30 := by
  obtain ⟨a1, a2⟩ := h
  constructor
  · have h3 : -5000 * b ≤ i * b := Int.mul_le_mul_of_nonneg_right a1 (by omega)
    omega
  · have h3 : i * b ≤ 5000 * b := Int.mul_le_mul_of_nonneg_right a2 (by omega)
    omega
theorem div_bnd {x a : Int} (h0 : 0 < a) {B : Int} (hB : 0 ≤ B) (h1 : -B ≤ x) (h2 : x ≤ B) : -B ≤ x / a ∧ x / a ≤ B := by
  constructor
  · have : -B ≤ x / a := (Int.le_ediv_iff_mul_le h0).mpr (by
      have : -B * a ≤ -B := by
        have : B * 1 ≤ B * a := Int.mul_le_mul_of_nonneg_left (by omega) hB
        rw [Int.neg_mul]; omega
      omega)
    exact this
  · have h3 : x / a ≤ B := by
      have h4 := Int.ediv_mul_le x (show a ≠ 0 by omega)
      by_cases c : x / a ≤ B
      · exact c
      · exfalso
        have h5 : B + 1 ≤ x / a := by omega
        have h6 : (B + 1) * 1 ≤ x / a * a := Int.mul_le_mul h5 (by omega) (by omega) (by omega)
        omega
    exact h3
def sp_fold_in (C : Cl) : PSp := fun ds M q _ => ar2 ds fun d r => asP d fun l h => asP r fun a b => (EnOk l ∧ EnOk h ∧ RtOk a b) ∧ ∀ d, d = optI (foldV l h a b) → q d M
def rd_fold_in (C : Cl) : PTS := (dSeq (dAsg (dVar 0) (gTp 2 (gsCons (gNm 2) (gsCons (gNm 3) gsNil))))
    (dSeq (dSet 4 (dOp fAdd (dOp fDiv (dOp fMul (dVar 2) (dOp fIx (dVar 1) (dC (.int 1)))) (dOp fIx (dVar 1) (dC (.int 0)))) (dC (.int 1))))
    (dRet (dIf (dTst (dOp fLt (dOp fMul (dVar 4) (dOp fIx (dVar 1) (dC (.int 0)))) (dOp fMul (dVar 3) (dOp fIx (dVar 1) (dC (.int 1)))))) (dVar 4) (dC .non)))))
theorem sh_fold_in (C : Cl) : Shows (sp_fold_in C) 5 (rd_fold_in C) := by
  intro ds M q e h
  obtain ⟨x, y, rfl, h⟩ := ar2_of h
  obtain ⟨l, h', rfl, h⟩ := asP_of h
  obtain ⟨a, b, rfl, ⟨h1, h2, h3⟩, hq⟩ := asP_of h
  have m1 := en_mul h1 h3.2.2.1 h3.2.2.2
  have d1 := div_bnd (x := l * b) h3.1 (by decide) m1.1 m1.2
  have s1 : Sz (l * b / a + 1) := ⟨by omega, by omega⟩
  refine ⟨rfl, _, rfl, h1.sz.mul h3.sb, _, rfl, h3.sa.div h3.1 _, _, rfl, s1.mul h3.sa, _, rfl, h2.sz.mul h3.sb, ?_⟩
  have hq := hq _ rfl
  unfold foldV at hq
  by_cases c : (l * b / a + 1) * a < h' * b
  · rw [if_pos c] at hq
    exact itT (decide_eq_true c) ⟨M, MLe.refl M, hq⟩
  · rw [if_neg c] at hq
    exact itF (decide_eq_false c) ⟨M, MLe.refl M, hq⟩
/-- the least multiple of twice the rate from low on, up to high: how many times -/
def gapT (lo a b : Int) : Int := -(-lo * b / (2 * a))
def gapIs (lo hi a b : Int) : Bool := decide (2 * gapT lo a b * a ≤ hi * b)
def gapD (lo hi a b : Int) : D := if gapIs lo hi a b = true then spd (2 * gapT lo a b * a) b else .non
def sp_gap_in (C : Cl) : PSp := fun ds M q _ => ar3 ds fun lo hi r => asI lo fun lo => asI hi fun hi => asP r fun a b => (0 ≤ lo ∧ EnOk lo ∧ EnOk hi ∧ RtOk a b) ∧ ∀ d, d = gapD lo hi a b → q d M
def rd_gap_in (C : Cl) : PTS := (dSeq (dSet 3 (dNeg (dOp fDiv (dOp fMul (dNeg (dVar 0)) (dOp fIx (dVar 2) (dC (.int 1)))) (dOp fMul (dC (.int 2)) (dOp fIx (dVar 2) (dC (.int 0)))))))
    (dRet (dIf (dTst (dOp fLe (dOp fMul (dOp fMul (dC (.int 2)) (dVar 3)) (dOp fIx (dVar 2) (dC (.int 0)))) (dOp fMul (dVar 1) (dOp fIx (dVar 2) (dC (.int 1)))))) (dCall (sp_lowest C) [] (dCons (dOp fMul (dOp fMul (dC (.int 2)) (dVar 3)) (dOp fIx (dVar 2) (dC (.int 0)))) (dCons (dOp fIx (dVar 2) (dC (.int 1))) dNil))) (dC .non))))
theorem gapT_nn {lo a b : Int} (h : 0 ≤ lo) (ha : 0 < a) (hb : 0 < b) : 0 ≤ gapT lo a b := by
  unfold gapT
  have h1 : -lo * b ≤ 0 := by
    have := Int.mul_nonneg h (Int.le_of_lt hb)
    rw [Int.neg_mul]; omega
  have h2 : -lo * b / (2 * a) ≤ 0 := Int.ediv_nonpos_of_nonpos_of_neg h1 (by omega)
  omega
theorem gapT_sz {lo a b : Int} (h : EnOk lo) (hr : RtOk a b) : -(5000 * 10 ^ 30) ≤ gapT lo a b ∧ gapT lo a b ≤ 5000 * 10 ^ 30 := by
  have h' : EnOk (-lo) := ⟨by have := h.2; omega, by have := h.1; omega⟩
  have m1 := en_mul h' hr.2.2.1 hr.2.2.2
  have d1 := div_bnd (x := -lo * b) (a := 2 * a) (by have := hr.1; omega) (by decide) m1.1 m1.2
  unfold gapT
  omega
theorem sh_gap_in (C : Cl) : Shows (sp_gap_in C) 4 (rd_gap_in C) := by
  intro ds M q e h
  obtain ⟨x, y, z, rfl, h⟩ := ar3_of h
  obtain ⟨lo, e1, h⟩ := asI_of h
  obtain ⟨hi, e2, h⟩ := asI_of h
  subst e1 e2
  obtain ⟨a, b, rfl, ⟨h0, h1, h2, h3⟩, hq⟩ := asP_of h
  have h1' : Sz (-lo) := ⟨by have := h1.2; omega, by have := h1.1; omega⟩
  have g0' := gapT_nn (lo := lo) h0 h3.1 h3.2.2.1
  have g1 := gapT_sz h1 h3
  have eg : gapT lo a b = -(-lo * b / (2 * a)) := rfl
  have st : Sz (gapT lo a b) := ⟨by omega, by omega⟩
  have st2 : Sz (2 * gapT lo a b) := ⟨by omega, by omega⟩
  have s2a : Sz (2 * a) := ⟨by have := h3.1; omega, by have := h3.2.1; omega⟩
  refine ⟨_, rfl, h1'.mul h3.sb, _, rfl, sz2.mul h3.sa, s2a.div (by have := h3.1; omega) _, sz2.mul st, _, rfl, st2.mul h3.sa, _, rfl, h2.sz.mul h3.sb, ?_⟩
  have hq := hq _ rfl
  unfold gapD at hq
  cases c : gapIs lo hi a b with
  | true =>
    rw [c] at hq
    refine itT c ⟨sz2.mul st, _, rfl, st2.mul h3.sa, _, rfl, Int.mul_nonneg (by omega) (by have := h3.1; omega), h3.2.2.1, Bd.sm (by have := h3.2.2.1; omega) h3.sb.2, M, MLe.refl M, hq⟩
  | false =>
    rw [c] at hq
    exact itF c ⟨M, MLe.refl M, hq⟩

/-! ## two bands that look alike -/
/-- what the two pairs have in common of a gap: f and g - f, or f and f + g -/
def aX (l1 h2 G0 G1 : Int) : Int := if l1 * G1 < G0 - h2 * G1 then G0 - h2 * G1 else l1 * G1
def bX (l1 l2 G0 G1 : Int) : Int := if l1 * G1 < l2 * G1 - G0 then l2 * G1 - G0 else l1 * G1
def sumD (l1 h2 : Int) : D → D
  | .tup [.int G0, .int G1] => .tup [spd (aX l1 h2 G0 G1) G1, spd (G0 - aX l1 h2 G0 G1) G1]
  | _ => .non
def difD (l1 l2 : Int) : D → D
  | .tup [.int G0, .int G1] => .tup [spd (bX l1 l2 G0 G1) G1, spd (bX l1 l2 G0 G1 + G0) G1]
  | _ => .non
def alikeD (l1 h1 l2 h2 a b : Int) : D :=
  if gapIs (l1 + l2) (h1 + h2) a b = true then sumD l1 h2 (gapD (l1 + l2) (h1 + h2) a b)
  else if gapIs (l2 - h1) (h2 - l1) a b = true then difD l1 l2 (gapD (l2 - h1) (h2 - l1) a b)
  else .non
/-- two bands, the one behind the other -/
def BnOk (l1 h1 l2 h2 : Int) : Prop := 0 ≤ l1 ∧ l1 < h1 ∧ h1 < l2 ∧ l2 < h2 ∧ h2 ≤ 1000
def sp_alike_in (C : Cl) : PSp := fun ds M q _ => ar3 ds fun x y r => asP x fun l1 h1 => asP y fun l2 h2 => asP r fun a b => (BnOk l1 h1 l2 h2 ∧ RtOk a b) ∧ ∀ d, d = alikeD l1 h1 l2 h2 a b → q d M
theorem gap_facts {lo hi a b : Int} (h0 : 0 ≤ lo) (h1 : EnOk lo) (h2 : EnOk hi) (hr : RtOk a b) (hg : gapIs lo hi a b = true) :
    ∃ G0 G1 t, gapD lo hi a b = .tup [.int G0, .int G1] ∧ 0 ≤ G0 ∧ 0 < G1 ∧ G1 ≤ 10 ^ 30 ∧ G0 ≤ 5000 * 10 ^ 30 ∧ lo * G1 ≤ G0 ∧ G0 ≤ hi * G1 ∧ 0 ≤ t ∧ G0 * b = 2 * t * a * G1 := by
  have t0 := gapT_nn (lo := lo) h0 hr.1 hr.2.2.1
  have T0 : 0 ≤ 2 * gapT lo a b * a := Int.mul_nonneg (by omega) (by have := hr.1; omega)
  have hg' : 2 * gapT lo a b * a ≤ hi * b := by unfold gapIs at hg; exact of_decide_eq_true hg
  have hlo : lo * b ≤ 2 * gapT lo a b * a := by
    have e := Int.ediv_mul_le (-lo * b) (show 2 * a ≠ 0 by have := hr.1; omega)
    have e2 : 2 * gapT lo a b * a = -(-lo * b / (2 * a) * (2 * a)) := by
      unfold gapT
      rw [Int.mul_neg, Int.neg_mul, Int.mul_comm 2 (-lo * b / (2 * a)), Int.mul_assoc]
    rw [e2]
    rw [Int.neg_mul] at e ⊢
    omega
  have gp := g0_pos (x := 2 * gapT lo a b * a) hr.2.2.1
  have ex := Int.mul_ediv_cancel' (g0_dvd_l (2 * gapT lo a b * a) b)
  have ey := Int.mul_ediv_cancel' (g0_dvd_r (2 * gapT lo a b * a) b)
  refine ⟨2 * gapT lo a b * a / g0 (2 * gapT lo a b * a) b, b / g0 (2 * gapT lo a b * a) b, gapT lo a b, ?_, Int.ediv_nonneg T0 (by omega), ?_, ?_, ?_, ?_, ?_, t0, ?_⟩
  · unfold gapD
    rw [if_pos hg]
    rfl
  · generalize g0 (2 * gapT lo a b * a) b = g at *
    by_cases c : 0 < b / g
    · exact c
    · exfalso
      have : g * (b / g) ≤ g * 0 := Int.mul_le_mul_of_nonneg_left (by omega) (by omega)
      have := hr.2.2.1
      omega
  · exact Int.le_trans (Int.ediv_le_self _ (by have := hr.2.2.1; omega)) hr.2.2.2
  · refine Int.le_trans (Int.ediv_le_self _ T0) (Int.le_trans hg' ?_)
    exact (en_mul h2 hr.2.2.1 hr.2.2.2).2
  · generalize g0 (2 * gapT lo a b * a) b = g at *
    refine Int.le_of_mul_le_mul_left (a := g) ?_ gp
    rw [ex, Int.mul_left_comm, ey]
    exact hlo
  · generalize g0 (2 * gapT lo a b * a) b = g at *
    refine Int.le_of_mul_le_mul_left (a := g) ?_ gp
    rw [ex, Int.mul_left_comm, ey]
    exact hg'
  · generalize g0 (2 * gapT lo a b * a) b = g at *
    refine Int.eq_of_mul_eq_mul_left (show g ≠ 0 by omega) ?_
    rw [← Int.mul_assoc, ex, Int.mul_left_comm, ey]
theorem spd_self (x : Int) : spd x 1 = .tup [.int x, .int 1] := by
  unfold spd g0
  rw [Int.gcd_one]
  simp
/-- what a fraction in lowest terms is -/
theorem spd_parts {x y : Int} (hx : 0 ≤ x) (hy : 0 < y) : ∃ u v g, spd x y = .tup [.int u, .int v] ∧ 0 ≤ u ∧ 0 < v ∧ 0 < g ∧ x = g * u ∧ y = g * v ∧ u ≤ x ∧ v ≤ y := by
  have gp := g0_pos (x := x) hy
  have ex := Int.mul_ediv_cancel' (g0_dvd_l x y)
  have ey := Int.mul_ediv_cancel' (g0_dvd_r x y)
  refine ⟨x / g0 x y, y / g0 x y, g0 x y, rfl, Int.ediv_nonneg hx (by omega), ?_, gp, ex.symm, ey.symm, Int.ediv_le_self _ hx, Int.ediv_le_self _ (by omega)⟩
  by_cases c : 0 < y / g0 x y
  · exact c
  · exfalso
    have : g0 x y * (y / g0 x y) ≤ g0 x y * 0 := Int.mul_le_mul_of_nonneg_left (by omega) (by omega)
    omega

def rd_alike_in (C : Cl) : PTS := (dSeq (dSet 3 (dCall (sp_gap_in C) [] (dCons (dOp fAdd (dOp fIx (dVar 0) (dC (.int 0))) (dOp fIx (dVar 1) (dC (.int 0)))) (dCons (dOp fAdd (dOp fIx (dVar 0) (dC (.int 1))) (dOp fIx (dVar 1) (dC (.int 1)))) (dCons (dVar 2) dNil)))))
    (dSeq (dIfS (dTst (dOp fIsNot (dVar 3) (dC .non))) (dSeq (dSet 4 (dTup (dCons (dOp fIx (dVar 0) (dC (.int 0))) (dCons (dC (.int 1)) dNil))))
    (dSeq (dIfS (dTst (dOp fLt (dOp fMul (dOp fIx (dVar 1) (dC (.int 1))) (dOp fIx (dVar 3) (dC (.int 1)))) (dOp fIx (dVar 3) (dC (.int 0))))) (dSet 4 (dCall (sp_greater C) [] (dCons (dVar 4) (dCons (dCall (sp_moved C) [] (dCons (dNeg (dOp fIx (dVar 1) (dC (.int 1)))) (dCons (dVar 3) (dCons (dC (.int 1)) dNil)))) dNil)))) dNext)
    (dRet (dTup (dCons (dVar 4) (dCons (dCall (sp_lowest C) [] (dCons (dOp fSub (dOp fMul (dOp fIx (dVar 3) (dC (.int 0))) (dOp fIx (dVar 4) (dC (.int 1)))) (dOp fMul (dOp fIx (dVar 4) (dC (.int 0))) (dOp fIx (dVar 3) (dC (.int 1))))) (dCons (dOp fMul (dOp fIx (dVar 3) (dC (.int 1))) (dOp fIx (dVar 4) (dC (.int 1)))) dNil))) dNil)))))) dNext)
    (dSeq (dSet 3 (dCall (sp_gap_in C) [] (dCons (dOp fSub (dOp fIx (dVar 1) (dC (.int 0))) (dOp fIx (dVar 0) (dC (.int 1)))) (dCons (dOp fSub (dOp fIx (dVar 1) (dC (.int 1))) (dOp fIx (dVar 0) (dC (.int 0)))) (dCons (dVar 2) dNil)))))
    (dSeq (dIfS (dTst (dOp fIs (dVar 3) (dC .non))) (dRet (dC .non)) dNext)
    (dSeq (dSet 4 (dTup (dCons (dOp fIx (dVar 0) (dC (.int 0))) (dCons (dC (.int 1)) dNil))))
    (dSeq (dIfS (dTst (dOp fGt (dOp fMul (dOp fIx (dVar 1) (dC (.int 0))) (dOp fIx (dVar 3) (dC (.int 1)))) (dOp fIx (dVar 3) (dC (.int 0))))) (dSet 4 (dCall (sp_greater C) [] (dCons (dVar 4) (dCons (dCall (sp_moved C) [] (dCons (dOp fIx (dVar 1) (dC (.int 0))) (dCons (dVar 3) (dCons (dNeg (dC (.int 1))) dNil)))) dNil)))) dNext)
    (dRet (dTup (dCons (dVar 4) (dCons (dCall (sp_lowest C) [] (dCons (dOp fAdd (dOp fMul (dOp fIx (dVar 4) (dC (.int 0))) (dOp fIx (dVar 3) (dC (.int 1)))) (dOp fMul (dOp fIx (dVar 3) (dC (.int 0))) (dOp fIx (dVar 4) (dC (.int 1))))) (dCons (dOp fMul (dOp fIx (dVar 4) (dC (.int 1))) (dOp fIx (dVar 3) (dC (.int 1)))) dNil))) dNil))))))))))
theorem great_is {l A B : Int} (hA : 0 ≤ A) (hB : 0 < B) : (if l * (B / g0 A B) < (A / g0 A B) * 1 then .tup [.int (A / g0 A B), .int (B / g0 A B)] else .tup [.int l, .int 1] : D) = spd (if l * B < A then A else l * B) B := by
  have gp := g0_pos (x := A) hB
  have ex := Int.mul_ediv_cancel' (g0_dvd_l A B)
  have ey := Int.mul_ediv_cancel' (g0_dvd_r A B)
  have key : l * (B / g0 A B) < (A / g0 A B) * 1 ↔ l * B < A := by
    generalize g0 A B = g at *
    rw [Int.mul_one]
    constructor
    · intro z
      have := Int.mul_lt_mul_of_pos_left z gp
      rw [ex, Int.mul_left_comm, ey] at this
      exact this
    · intro z
      refine Int.lt_of_mul_lt_mul_left (a := g) ?_ (Int.le_of_lt gp)
      rw [ex, Int.mul_left_comm, ey]
      exact z
  by_cases c : l * B < A
  · rw [if_pos c, if_pos (key.mpr c)]; rfl
  · rw [if_neg c, if_neg (fun z => c (key.mp z)), ← spd_self l, Int.mul_comm l B]
    have e := spd_mul hB l 1
    rw [Int.mul_one] at e
    exact e.symm
theorem sh_alike_in (C : Cl) : Shows (sp_alike_in C) 5 (rd_alike_in C) := by
  intro ds M q e h
  obtain ⟨x, y, z, rfl, h⟩ := ar3_of h
  obtain ⟨l1, h1, rfl, h⟩ := asP_of h
  obtain ⟨l2, h2, rfl, h⟩ := asP_of h
  obtain ⟨a, b, rfl, ⟨⟨b1, b2, b3, b4, b5⟩, hr⟩, hq⟩ := asP_of h
  have k1 : EnOk (l1 + l2) := ⟨by omega, by omega⟩
  have k2 : EnOk (h1 + h2) := ⟨by omega, by omega⟩
  have k3 : EnOk (l2 - h1) := ⟨by omega, by omega⟩
  have k4 : EnOk (h2 - l1) := ⟨by omega, by omega⟩
  have sl1 : Sz l1 := ⟨by omega, by omega⟩
  have sl2 : Sz l2 := ⟨by omega, by omega⟩
  have sh1 : Sz h1 := ⟨by omega, by omega⟩
  have sh2 : Sz h2 := ⟨by omega, by omega⟩
  have sn2 : Sz (-h2) := ⟨by omega, by omega⟩
  have s1 : Sz 1 := sz_lit
  have sm1 : Sz (-1) := sz_lit
  have hq := hq _ rfl
  unfold alikeD at hq
  refine ⟨_, rfl, _, rfl, _, rfl, _, rfl, ⟨by omega, k1, k2, hr⟩, fun d hd => ?_⟩
  by_cases c1 : gapIs (l1 + l2) (h1 + h2) a b = true
  · rw [if_pos c1] at hq
    obtain ⟨G0, G1, t, eG, p0, p1, p2, p3, p4, p5, p6, p7⟩ := gap_facts (by omega) k1 k2 hr c1
    rw [eG] at hq hd
    subst hd
    have hq : q (.tup [spd (aX l1 h2 G0 G1) G1, spd (G0 - aX l1 h2 G0 G1) G1]) M := hq
    have sG0 : Sz G0 := ⟨by omega, by omega⟩
    have sG1 : Sz G1 := ⟨by omega, by omega⟩
    have n1 : 0 ≤ l1 * G1 := Int.mul_nonneg b1 (by omega)
    have n2 : l1 * G1 ≤ G0 := by
      refine Int.le_trans ?_ p4
      exact Int.mul_le_mul_of_nonneg_right (by omega) (by omega)
    have hX0 : 0 ≤ aX l1 h2 G0 G1 := by unfold aX; split <;> omega
    have n3 : 0 ≤ h2 * G1 := Int.mul_nonneg (by omega) (by omega)
    have hXG : aX l1 h2 G0 G1 ≤ G0 := by unfold aX; split <;> omega
    refine ⟨rfl, _, rfl, by simp, _, rfl, _, rfl, sh2.mul sG1, _, rfl, ?_⟩
    by_cases c2 : h2 * G1 < G0
    · have eA : -h2 * G1 + 1 * G0 = G0 - h2 * G1 := by rw [Int.neg_mul, Int.one_mul]; omega
      refine itT (decide_eq_true c2) ⟨_, rfl, ⟨sn2, sG0, sG1, s1, p1, by rw [eA]; omega⟩, ?_⟩
      have gp := g0_pos (x := -h2 * G1 + 1 * G0) p1
      have le1 : (-h2 * G1 + 1 * G0) / g0 (-h2 * G1 + 1 * G0) G1 ≤ -h2 * G1 + 1 * G0 := Int.ediv_le_self _ (by rw [eA]; omega)
      have le2 : G1 / g0 (-h2 * G1 + 1 * G0) G1 ≤ G1 := Int.ediv_le_self _ (by omega)
      have ge1 : 0 ≤ (-h2 * G1 + 1 * G0) / g0 (-h2 * G1 + 1 * G0) G1 := Int.ediv_nonneg (by rw [eA]; omega) (by omega)
      have ge2 : 0 ≤ G1 / g0 (-h2 * G1 + 1 * G0) G1 := Int.ediv_nonneg (by omega) (by omega)
      refine ⟨⟨sl1, s1, ⟨by omega, by rw [eA] at le1; rw [eA]; omega⟩, ⟨by omega, by omega⟩⟩, fun d hd => ?_⟩
      rw [great_is (by rw [eA]; omega) p1, eA] at hd
      have hd : d = spd (aX l1 h2 G0 G1) G1 := hd
      obtain ⟨u, v, g, es, u0, v0, g0', ex, ey, ux, vy⟩ := spd_parts hX0 p1
      rw [es] at hd hq
      subst hd
      dsimp only [st]
      have su : Sz u := ⟨by omega, by omega⟩
      have sv : Sz v := ⟨by omega, by omega⟩
      have e1 : G0 * v - u * G1 = v * (G0 - aX l1 h2 G0 G1) := by
        rw [Int.mul_sub, Int.mul_comm G0 v, ex, ey, Int.mul_left_comm u g v, Int.mul_left_comm v g u, Int.mul_comm u v]
      have e2 : G1 * v = v * G1 := Int.mul_comm ..
      refine ⟨_, rfl, _, rfl, sG0.mul sv, _, rfl, _, rfl, su.mul sG1, _, rfl, _, rfl, sG1.mul sv, ?_, Int.mul_pos p1 v0, ?_, by simp, M, MLe.refl M, ?_⟩
      · rw [e1]; exact Int.mul_nonneg (by omega) (by omega)
      · exact Bd.mul' sG1 sv
      · rw [e1, e2, spd_mul v0]
        exact hq
    · have eX : aX l1 h2 G0 G1 = l1 * G1 := by unfold aX; rw [if_neg (by omega)]
      have es : spd (l1 * G1) G1 = .tup [.int l1, .int 1] := by
        rw [← spd_self l1, Int.mul_comm l1 G1]
        have e := spd_mul p1 l1 1
        rw [Int.mul_one] at e
        exact e
      rw [eX, es] at hq
      have e1 : G0 * 1 - l1 * G1 = G0 - l1 * G1 := by rw [Int.mul_one]
      refine itF (decide_eq_false c2) ?_
      refine ⟨_, rfl, _, rfl, sG0.mul s1, _, rfl, _, rfl, sl1.mul sG1, _, rfl, _, rfl, sG1.mul s1, by omega, by omega, Bd.mul' sG1 s1, by simp, M, MLe.refl M, ?_⟩
      rw [e1, Int.mul_one]
      exact hq
  · rw [if_neg c1] at hq
    have e0 : d = .non := by rw [hd]; unfold gapD; rw [if_neg c1]
    subst e0
    refine ⟨rfl, _, rfl, _, rfl, _, rfl, _, rfl, ⟨by omega, k3, k4, hr⟩, fun d hd => ?_⟩
    by_cases c3 : gapIs (l2 - h1) (h2 - l1) a b = true
    · rw [if_pos c3] at hq
      obtain ⟨G0, G1, t, eG, p0, p1, p2, p3, p4, p5, p6, p7⟩ := gap_facts (by omega) k3 k4 hr c3
      rw [eG] at hq hd
      subst hd
      have hq : q (.tup [spd (bX l1 l2 G0 G1) G1, spd (bX l1 l2 G0 G1 + G0) G1]) M := hq
      have sG0 : Sz G0 := ⟨by omega, by omega⟩
      have sG1 : Sz G1 := ⟨by omega, by omega⟩
      have n1 : 0 ≤ l1 * G1 := Int.mul_nonneg b1 (by omega)
      have n3 : l2 * G1 ≤ 1000 * G1 := Int.mul_le_mul_of_nonneg_right (by omega) (by omega)
      have n4 : l1 * G1 ≤ 1000 * G1 := Int.mul_le_mul_of_nonneg_right (by omega) (by omega)
      have hX0 : 0 ≤ bX l1 l2 G0 G1 := by unfold bX; split <;> omega
      have hXG : bX l1 l2 G0 G1 ≤ 1000 * G1 := by unfold bX; split <;> omega
      refine ⟨rfl, _, rfl, by simp, _, rfl, _, rfl, sl2.mul sG1, _, rfl, ?_⟩
      by_cases c2 : G0 < l2 * G1
      · have eA : l2 * G1 + -1 * G0 = l2 * G1 - G0 := by rw [Int.neg_mul, Int.one_mul]; omega
        refine itT (decide_eq_true c2) ⟨_, rfl, ⟨sl2, sG0, sG1, sm1, p1, by rw [eA]; omega⟩, ?_⟩
        have gp := g0_pos (x := l2 * G1 + -1 * G0) p1
        have le1 : (l2 * G1 + -1 * G0) / g0 (l2 * G1 + -1 * G0) G1 ≤ l2 * G1 + -1 * G0 := Int.ediv_le_self _ (by rw [eA]; omega)
        have le2 : G1 / g0 (l2 * G1 + -1 * G0) G1 ≤ G1 := Int.ediv_le_self _ (by omega)
        have ge1 : 0 ≤ (l2 * G1 + -1 * G0) / g0 (l2 * G1 + -1 * G0) G1 := Int.ediv_nonneg (by rw [eA]; omega) (by omega)
        have ge2 : 0 ≤ G1 / g0 (l2 * G1 + -1 * G0) G1 := Int.ediv_nonneg (by omega) (by omega)
        refine ⟨⟨sl1, s1, ⟨by omega, by rw [eA] at le1; rw [eA]; omega⟩, ⟨by omega, by omega⟩⟩, fun d hd => ?_⟩
        rw [great_is (by rw [eA]; omega) p1, eA] at hd
        have hd : d = spd (bX l1 l2 G0 G1) G1 := hd
        obtain ⟨u, v, g, es, u0, v0, g0', ex, ey, ux, vy⟩ := spd_parts hX0 p1
        rw [es] at hd hq
        subst hd
        dsimp only [st]
        have su : Sz u := ⟨by omega, by omega⟩
        have sv : Sz v := ⟨by omega, by omega⟩
        have e1 : u * G1 + G0 * v = v * (bX l1 l2 G0 G1 + G0) := by
          rw [Int.mul_add, Int.mul_comm G0 v, ex, ey, Int.mul_left_comm u g v, Int.mul_left_comm v g u, Int.mul_comm u v]
        have e2 : v * G1 = v * G1 := rfl
        refine ⟨_, rfl, _, rfl, su.mul sG1, _, rfl, _, rfl, sG0.mul sv, _, rfl, _, rfl, sv.mul sG1, ?_, Int.mul_pos v0 p1, ?_, by simp, M, MLe.refl M, ?_⟩
        · rw [e1]; exact Int.mul_nonneg (by omega) (by omega)
        · exact Bd.mul' sv sG1
        · rw [e1, spd_mul v0]
          exact hq
      · have eX : bX l1 l2 G0 G1 = l1 * G1 := by unfold bX; rw [if_neg (by omega)]
        have es : spd (l1 * G1) G1 = .tup [.int l1, .int 1] := by
          rw [← spd_self l1, Int.mul_comm l1 G1]
          have e := spd_mul p1 l1 1
          rw [Int.mul_one] at e
          exact e
        rw [eX, es] at hq
        have e1 : l1 * G1 + G0 * 1 = l1 * G1 + G0 := by rw [Int.mul_one]
        refine itF (decide_eq_false c2) ?_
        refine ⟨_, rfl, _, rfl, sl1.mul sG1, _, rfl, _, rfl, sG0.mul s1, _, rfl, _, rfl, s1.mul sG1, by omega, by omega, Bd.mul' s1 sG1, by simp, M, MLe.refl M, ?_⟩
        rw [e1, Int.one_mul]
        exact hq
    · rw [if_neg c3] at hq
      have e0 : d = .non := by rw [hd]; unfold gapD; rw [if_neg c3]
      subst e0
      exact ⟨rfl, M, MLe.refl M, hq⟩
end Px

set_option Elab.async false
set_option linter.all false
set_option maxRecDepth 100000
namespace Px
open PySem PySem.Spec PyProof.Rows L2
/-! # several bands -/
abbrev Bs := List (Int × Int)
def bsD (bs : Bs) : List D := bs.map prD
def BdOk (p : Int × Int) : Prop := 0 ≤ p.1 ∧ p.1 < p.2 ∧ p.2 ≤ 1000
def BsOk (bs : Bs) : Prop := (∀ p ∈ bs, BdOk p) ∧ bs.Pairwise fun p q => p.2 < q.1
theorem BsOk.cons {p : Int × Int} {r : Bs} (h : BsOk (p :: r)) : BdOk p ∧ BsOk r ∧ ∀ x ∈ r, p.2 < x.1 :=
  ⟨h.1 p List.mem_cons_self, ⟨fun x hx => h.1 x (List.mem_cons_of_mem _ hx), (List.pairwise_cons.mp h.2).2⟩, (List.pairwise_cons.mp h.2).1⟩
def firstFold (a b : Int) : Nat → Bs → Option (Nat × Int)
  | _, [] => none
  | n, p :: r => match foldV p.1 p.2 a b with
    | some t => some (n, t)
    | none => firstFold a b (n + 1) r
def pairD (a b : Int) (p : Int × Int) : Bs → D
  | [] => .non
  | x :: r => match alikeD p.1 p.2 x.1 x.2 a b with
    | .tup l => .tup l
    | _ => pairD a b p r
def pairsD (a b : Int) : Bs → D
  | [] => .non
  | p :: r => match pairD a b p r with
    | .tup l => .tup l
    | _ => pairsD a b r
def alikeT : D → D
  | .tup [x, y] => .tup [.str "alike", x, y]
  | _ => .non
def clashD (a b : Int) (bs : Bs) : D := match firstFold a b 0 bs with
  | some (n, t) => .tup [.str "folded", .int n, .int t]
  | none => alikeT (pairsD a b bs)
theorem gapD_form (lo hi a b : Int) (h : gapIs lo hi a b = true) : ∃ x y, gapD lo hi a b = .tup [.int x, .int y] := ⟨_, _, by unfold gapD; rw [if_pos h]; rfl⟩
theorem alikeD_form (l1 h1 l2 h2 a b : Int) : alikeD l1 h1 l2 h2 a b = .non ∨ ∃ x y u v, alikeD l1 h1 l2 h2 a b = .tup [.tup [.int x, .int y], .tup [.int u, .int v]] := by
  unfold alikeD
  by_cases c1 : gapIs (l1 + l2) (h1 + h2) a b = true
  · rw [if_pos c1]
    obtain ⟨x, y, e⟩ := gapD_form _ _ _ _ c1
    rw [e]
    exact .inr ⟨_, _, _, _, rfl⟩
  · rw [if_neg c1]
    by_cases c2 : gapIs (l2 - h1) (h2 - l1) a b = true
    · rw [if_pos c2]
      obtain ⟨x, y, e⟩ := gapD_form _ _ _ _ c2
      rw [e]
      exact .inr ⟨_, _, _, _, rfl⟩
    · rw [if_neg c2]
      exact .inl rfl
theorem pairD_form (a b : Int) (p : Int × Int) : ∀ r : Bs, pairD a b p r = .non ∨ ∃ x y u v, pairD a b p r = .tup [.tup [.int x, .int y], .tup [.int u, .int v]]
  | [] => .inl rfl
  | z :: r => by
    unfold pairD
    rcases alikeD_form p.1 p.2 z.1 z.2 a b with e | ⟨x, y, u, v, e⟩
    · rw [e]; exact pairD_form a b p r
    · rw [e]; exact .inr ⟨x, y, u, v, rfl⟩
theorem pairsD_form (a b : Int) : ∀ r : Bs, pairsD a b r = .non ∨ ∃ x y u v, pairsD a b r = .tup [.tup [.int x, .int y], .tup [.int u, .int v]]
  | [] => .inl rfl
  | z :: r => by
    unfold pairsD
    rcases pairD_form a b z r with e | ⟨x, y, u, v, e⟩
    · rw [e]; exact pairsD_form a b r
    · rw [e]; exact .inr ⟨x, y, u, v, rfl⟩
/-- a list or a tuple of bands -/
def IsBs (d : D) (bs : Bs) : Prop := d = .lst (bsD bs) ∨ d = .tup (bsD bs)
def sp_clash_of (C : Cl) : PSp := fun ds M q _ => ar2 ds fun d r => ∃ bs, IsBs d bs ∧ asP r fun a b => (BsOk bs ∧ bs.length ≤ 4 ∧ RtOk a b) ∧ q (clashD a b bs) M
def rd_fold1 (C : Cl) : PTS := (dSeq (dSet 4 (dCall (sp_fold_in C) [] (dCons (dVar 3) (dCons (dVar 1) dNil))))
    (dIfS (dTst (dOp fIsNot (dVar 4) (dC .non))) (dRet (dTup (dCons (dC (.str "folded")) (dCons (dVar 2) (dCons (dVar 4) dNil))))) dNext))
def rd_pair1 (C : Cl) : PTS := (dSeq (dSet 6 (dCall (sp_alike_in C) [] (dCons (dVar 3) (dCons (dVar 5) (dCons (dVar 1) dNil)))))
    (dIfS (dTst (dOp fIsNot (dVar 6) (dC .non))) (dRet (dTup (dCons (dC (.str "alike")) (dCons (dOp fIx (dVar 6) (dC (.int 0))) (dCons (dOp fIx (dVar 6) (dC (.int 1))) dNil))))) dNext))
def rd_pair2 (C : Cl) : PTS := dFor (iA (dSl (dVar 0) (dPt (dOp fAdd (dVar 2) (dC (.int 1)))) dNo)) (gNm 5) (rd_pair1 C)
def rd_clash_of (C : Cl) : PTS := (dSeq (dFor (iEA (dVar 0)) (gTp 2 (gsCons (gNm 2) (gsCons (gNm 3) gsNil))) (rd_fold1 C))
    (dSeq (dFor (iEA (dVar 0)) (gTp 2 (gsCons (gNm 2) (gsCons (gNm 3) gsNil))) (rd_pair2 C))
    (dRet (dC .non))))
abbrev gEn : PTG := gTp 2 (gsCons (gNm 2) (gsCons (gNm 3) gsNil))
theorem fold_loop {C : Cl} {w : PWi} {B : Option Sv} {a b : Int} {M : Mm} {P : PEnds} (hr : RtOk a b) : ∀ (bs : Bs) (n : Nat), (∀ p ∈ bs, BdOk p) →
    (∀ k t, firstFold a b n bs = some (k, t) → P.rt (.tup [.str "folded", .int (k : Nat), .int t]) M) → (firstFold a b n bs = none → ∀ x2 x3 x4 x5 x6, P.nx [B, some (.val (prD (a, b))), x2, x3, x4, x5, x6] M) →
    ∀ x2 x3 x4 x5 x6, forR gEn (rd_fold1 C) w (enumD n (bsD bs)) P [B, some (.val (prD (a, b))), x2, x3, x4, x5, x6] M
  | [], n, _, _, h2, x2, x3, x4, x5, x6 => h2 rfl _ _ _ _ _
  | p :: r, n, hb, h1, h2, x2, x3, x4, x5, x6 => by
    have hp := hb p List.mem_cons_self
    have k1 : EnOk p.1 := ⟨by have := hp.1; omega, by have := hp.2.1; have := hp.2.2; omega⟩
    have k2 : EnOk p.2 := ⟨by have := hp.1; have := hp.2.1; omega, by have := hp.2.2; omega⟩
    refine ⟨rfl, ⟨k1, k2, hr⟩, fun d hd => ?_⟩
    unfold firstFold at h1 h2
    cases c : foldV p.1 p.2 a b with
    | some t =>
      rw [c] at hd h1
      subst hd
      exact ⟨rfl, by simp, h1 n t rfl⟩
    | none =>
      rw [c] at hd h1 h2
      subst hd
      exact ⟨rfl, fold_loop hr r (n + 1) (fun x hx => hb x (List.mem_cons_of_mem _ hx)) h1 h2 _ _ _ _ _⟩
theorem pair_loop {C : Cl} {w : PWi} {B x2 x4 : Option Sv} {a b : Int} {M : Mm} {P : PEnds} {p : Int × Int} (hr : RtOk a b) (hp : BdOk p) : ∀ (r : Bs), (∀ x ∈ r, BdOk x ∧ p.2 < x.1) →
    (∀ x y, pairD a b p r = .tup [x, y] → P.rt (.tup [.str "alike", x, y]) M) → (pairD a b p r = .non → ∀ x5 x6, P.nx [B, some (.val (prD (a, b))), x2, some (.val (prD p)), x4, x5, x6] M) →
    ∀ x5 x6, forR (gNm 5) (rd_pair1 C) w (bsD r) P [B, some (.val (prD (a, b))), x2, some (.val (prD p)), x4, x5, x6] M
  | [], _, _, h2, x5, x6 => h2 rfl _ _
  | x :: r, hb, h1, h2, x5, x6 => by
    obtain ⟨hx, hl⟩ := hb x List.mem_cons_self
    refine ⟨⟨⟨hp.1, hp.2.1, hl, hx.2.1, hx.2.2⟩, hr⟩, fun d hd => ?_⟩
    unfold pairD at h1 h2
    rcases alikeD_form p.1 p.2 x.1 x.2 a b with e | ⟨y1, y2, y3, y4, e⟩
    · rw [e] at hd h1 h2
      subst hd
      exact ⟨rfl, pair_loop hr hp r (fun z hz => hb z (List.mem_cons_of_mem _ hz)) h1 h2 _ _⟩
    · rw [e] at hd h1
      subst hd
      exact ⟨rfl, _, rfl, _, rfl, by simp, h1 _ _ rfl⟩
theorem cut_from (l : List D) (n : Nat) : cutD l (some ((n : Int) + 1)) none = l.drop (n + 1) := by
  unfold cutD
  have e : (n : Int) + 1 = ((n + 1 : Nat) : Int) := by omega
  rw [e, HT.sIx_nat, HT.sIx_none]
  by_cases c : n + 1 ≤ l.length
  · rw [Nat.min_eq_left c, List.take_of_length_le (by rw [List.length_drop]; omega)]
  · rw [Nat.min_eq_right (by omega), List.drop_eq_nil_of_le (Nat.le_refl _), List.drop_eq_nil_of_le (by omega)]; simp
theorem pairs_loop {C : Cl} {w : PWi} {B : D} {a b : Int} {M : Mm} {P : PEnds} {bs : Bs} (hB : IsBs B bs) (hr : RtOk a b) : ∀ (r pre : Bs), bs = pre ++ r → BsOk r →
    (∀ x y, pairsD a b r = .tup [x, y] → P.rt (.tup [.str "alike", x, y]) M) → (pairsD a b r = .non → ∀ x2 x3 x4 x5 x6, P.nx [some (.val B), some (.val (prD (a, b))), x2, x3, x4, x5, x6] M) →
    ∀ x2 x3 x4 x5 x6, forR gEn (rd_pair2 C) w (enumD pre.length (bsD r)) P [some (.val B), some (.val (prD (a, b))), x2, x3, x4, x5, x6] M
  | [], pre, _, _, _, h2, x2, x3, x4, x5, x6 => h2 rfl _ _ _ _ _
  | p :: r, pre, eb, hb, h1, h2, x2, x3, x4, x5, x6 => by
    obtain ⟨hp, hbr, hl⟩ := hb.cons
    have ecut : (bsD bs).drop (pre.length + 1) = bsD r := by
      rw [eb]
      unfold bsD
      rw [List.map_append, show pre.length + 1 = (pre.map prD).length + 1 by rw [List.length_map], List.drop_append, List.drop_eq_nil_of_le (by omega)]
      simp
    have body : ∀ (F : Rho → Mm → Prop) (x4 x5 x6 : Option Sv), (pairD a b p r = .non → ∀ x5 x6, F [some (.val B), some (.val (prD (a, b))), some (.val (.int (pre.length : Nat))), some (.val (prD p)), x4, x5, x6] M) →
        forR (gNm 5) (rd_pair1 C) w (bsD r) { P with nx := F, ct := F, bk := P.nx } [some (.val B), some (.val (prD (a, b))), some (.val (.int (pre.length : Nat))), some (.val (prD p)), x4, x5, x6] M := fun F x4 x5 x6 hF =>
      pair_loop (P := { P with nx := F, ct := F, bk := P.nx }) hr hp r (fun x hx => ⟨hbr.1 x hx, hl x hx⟩) (fun x y e => h1 x y (by unfold pairsD; rw [e])) hF x5 x6
    have rest : pairD a b p r = .non → ∀ x2 x3 x4 x5 x6, forR gEn (rd_pair2 C) w (enumD (pre.length + 1) (bsD r)) P [some (.val B), some (.val (prD (a, b))), x2, x3, x4, x5, x6] M := fun e x2 x3 x4 x5 x6 => by
      have z := pairs_loop (C := C) (w := w) hB hr r (pre ++ [p]) (by rw [eb]; simp) hbr (fun x y e2 => h1 x y (by unfold pairsD; rw [e]; exact e2)) (fun e2 => h2 (by unfold pairsD; rw [e]; exact e2)) x2 x3 x4 x5 x6
      rw [List.length_append] at z
      exact z
    have fin : ∀ L : List D, L = bsD r → ∀ x4 x5 x6 : Option Sv, forR (gNm 5) (rd_pair1 C) w L { P with nx := forR gEn (rd_pair2 C) w (enumD (pre.length + 1) (bsD r)) P, ct := forR gEn (rd_pair2 C) w (enumD (pre.length + 1) (bsD r)) P, bk := P.nx }
        [some (.val B), some (.val (prD (a, b))), some (.val (.int (pre.length : Nat))), some (.val (prD p)), x4, x5, x6] M := by
      rintro L rfl x4 x5 x6
      exact body (forR gEn (rd_pair2 C) w (enumD (pre.length + 1) (bsD r)) P) x4 x5 x6 fun e x5 x6 => rest e _ _ _ _ _
    have ec : cutD (bsD bs) (some ((pre.length : Int) + 1)) none = bsD r := by rw [cut_from, ecut]
    refine ⟨rfl, ?_⟩
    rcases hB with rfl | rfl
    · exact fin _ ec x4 x5 x6
    · exact fin _ ec x4 x5 x6
theorem sh_clash_of (C : Cl) : Shows (sp_clash_of C) 7 (rd_clash_of C) := by
  intro ds M q e h
  obtain ⟨d, r, rfl, bs, hB, h⟩ := ar2_of h
  obtain ⟨a, b, rfl, ⟨hb, hl, hr⟩, hq⟩ := asP_of h
  rcases hB with rfl | rfl
  all_goals
    show forR gEn (rd_fold1 C) _ (enumD 0 (bsD bs)) _ [some (.val _), some (.val (prD (a, b))), none, none, none, none, none] M
    refine fold_loop hr bs 0 hb.1 ?_ ?_ _ _ _ _ _
    · intro k t e
      refine ⟨M, MLe.refl M, ?_⟩
      unfold clashD at hq
      rw [e] at hq
      exact hq
    · intro e x2 x3 x4 x5 x6
      unfold clashD at hq
      rw [e] at hq
      have hq : q (alikeT (pairsD a b bs)) M := hq
      show forR gEn (rd_pair2 C) _ (enumD 0 (bsD bs)) _ [some (.val _), some (.val (prD (a, b))), x2, x3, x4, x5, x6] M
      refine pairs_loop (by first | exact .inl rfl | exact .inr rfl) hr bs [] rfl hb ?_ ?_ _ _ _ _ _
      · intro x y e2
        rw [e2] at hq
        exact ⟨M, MLe.refl M, hq⟩
      · intro e2 x2 x3 x4 x5 x6
        rw [e2] at hq
        exact ⟨M, MLe.refl M, hq⟩
/-! ## what is asked of bands and rates -/
def sp_is_band (C : Cl) : PSp := fun ds M q _ => ar1 ds fun d => asP d fun l h => BdOk (l, h) ∧ q (.bl true) M
def rd_is_band (C : Cl) : PTS := (dSeq (dIfS (dOr (dNot (dTst (dB1 (fIsi "tuple") (dVar 0)))) (dOr (dTst (dOp fNe (dB1 fLen (dVar 0)) (dC (.int 2)))) (dNot (dTst (dCall (sp_is_between C) [] (dCons (dOp fIx (dVar 0) (dC (.int 0))) (dCons (dC (.int 0)) (dCons (dC (.int 1000)) dNil)))))))) (dRet (dC (.bl false))) dNext)
    (dRet (dCall (sp_is_between C) [] (dCons (dOp fIx (dVar 0) (dC (.int 1))) (dCons (dOp fAdd (dOp fIx (dVar 0) (dC (.int 0))) (dC (.int 1))) (dCons (dC (.int 1000)) dNil))))))
theorem btw_of {i lo hi : Int} (h1 : lo ≤ i) (h2 : i ≤ hi) : btwD (.int i) lo hi = true := by
  show (decide (lo ≤ i) && decide (i ≤ hi)) = true
  rw [decide_eq_true h1, decide_eq_true h2]; rfl
theorem sh_is_band (C : Cl) : Shows (sp_is_band C) 1 (rd_is_band C) := by
  intro ds M q e h
  obtain ⟨d, rfl, h⟩ := ar1_of h
  obtain ⟨l, h', rfl, ⟨h0, h1, h2⟩, hq⟩ := asP_of h
  have h0 : 0 ≤ l := h0
  have h1 : l < h' := h1
  have h2 : h' ≤ 1000 := h2
  refine ⟨rfl, _, rfl, rfl, ?_⟩
  refine itF (by rw [btw_of h0 (by omega)]; rfl) ⟨_, rfl, _, rfl, rfl, M, MLe.refl M, ?_⟩
  rw [btw_of (by omega) h2]
  exact hq
theorem enumD_mem {l : List D} {d : D} {n : Nat} (h : d ∈ enumD n l) : ∃ (i : Nat) (x : D), d = .tup [.int ((n + i : Nat) : Int), x] ∧ l[i]? = some x := by
  obtain ⟨i, hi⟩ := List.getElem?_of_mem h
  rw [enumD_get] at hi
  cases e : l[i]? with
  | none => rw [e] at hi; exact nomatch hi
  | some x =>
    rw [e] at hi
    exact ⟨i, x, (Option.some.inj hi).symm, e⟩
def sp_need_bands (C : Cl) : PSp := fun ds M q _ => ar1 ds fun d => ∃ bs, IsBs d bs ∧ (BsOk bs ∧ bs.length ≤ 4 ∧ 0 < bs.length) ∧ q .non M
def rd_need_bands (C : Cl) : PTS := (dSeq (dIfS (dOr (dNot (dTst (dB1 (fIsi2 "list" "tuple") (dVar 0)))) (dTst (dOp fEq (dB1 fLen (dVar 0)) (dC (.int 0))))) dNeverS dNext)
    (dFor (iEA (dVar 0)) (gTp 2 (gsCons (gNm 1) (gsCons (gNm 2) gsNil))) (dIfS (dOr (dTst (dOp fEq (dVar 1) (dC (.int 4)))) (dOr (dNot (dTst (dCall (sp_is_band C) [] (dCons (dVar 2) dNil)))) (dAnd (dTst (dOp fGt (dVar 1) (dC (.int 0)))) (dTst (dOp fLe (dOp fIx (dVar 2) (dC (.int 0))) (dOp fIx (dOp fIx (dVar 0) (dOp fSub (dVar 1) (dC (.int 1)))) (dC (.int 1)))))))) dNeverS dNext)))
theorem bsD_get {bs : Bs} {i : Nat} {x : D} (h : (bsD bs)[i]? = some x) : ∃ p, bs[i]? = some p ∧ x = prD p := by
  unfold bsD at h
  rw [List.getElem?_map] at h
  cases e : bs[i]? with
  | none => rw [e] at h; exact nomatch h
  | some p => rw [e] at h; exact ⟨p, rfl, (Option.some.inj h).symm⟩
theorem sh_need_bands (C : Cl) : Shows (sp_need_bands C) 3 (rd_need_bands C) := by
  intro ds M q e h
  obtain ⟨d, rfl, bs, hB, ⟨hb, hl, h0⟩, hq⟩ := ar1_of h
  have lenz : eqD (.int (((bsD bs).length : Nat) : Int)) (.int 0) = false := by
    show decide (((bsD bs).length : Int) = 0) = false
    unfold bsD
    rw [List.length_map]
    exact decide_eq_false (by omega)
  have main : forR (gTp 2 (gsCons (gNm 1) (gsCons (gNm 2) gsNil))) (dIfS (dOr (dTst (dOp fEq (dVar 1) (dC (.int 4)))) (dOr (dNot (dTst (dCall (sp_is_band C) [] (dCons (dVar 2) dNil)))) (dAnd (dTst (dOp fGt (dVar 1) (dC (.int 0)))) (dTst (dOp fLe (dOp fIx (dVar 2) (dC (.int 0))) (dOp fIx (dOp fIx (dVar 0) (dOp fSub (dVar 1) (dC (.int 1)))) (dC (.int 1)))))))) dNeverS dNext) (fun cls fs _ M' => ∃ M2, MLe M2 M' ∧ e cls fs M2) (enumD 0 (bsD bs))
      { nx := fun _ M' => ∃ M2, MLe M2 M' ∧ q .non M2, rt := fun d M' => ∃ M2, MLe M2 M' ∧ q d M2 } [some (.val d), none, none] M := by
    refine forR_inv (fun ρ M' => M' = M ∧ ∃ x1 x2 : Option Sv, ρ = [some (.val d), x1, x2]) _ ?_ ?_ _ _ ⟨rfl, none, none, rfl⟩
    · rintro x hx F hF ρ M' ⟨rfl, x1, x2, rfl⟩
      obtain ⟨i, y, rfl, hy⟩ := enumD_mem hx
      obtain ⟨p, hp, rfl⟩ := bsD_get hy
      rw [Nat.zero_add]
      have hi : i < bs.length := (List.getElem?_eq_some_iff.mp hp).1
      have pm : p ∈ bs := List.mem_of_getElem? hp
      refine ⟨rfl, rfl, ?_⟩
      refine itF (show decide ((i : Int) = 4) = false from decide_eq_false (by omega)) ⟨hb.1 p pm, ?_⟩
      by_cases c : (0 : Int) < i
      · refine itT (decide_eq_true c) ⟨_, rfl, ?_⟩
        obtain ⟨j, rfl⟩ : ∃ j, i = j + 1 := ⟨i - 1, by omega⟩
        have hj : j < bs.length := by omega
        have ej : ((j + 1 : Nat) : Int) - 1 = (j : Int) := by omega
        have lt : bs[j].2 < p.1 := by
          have e1 := List.pairwise_iff_getElem.mp hb.2 j (j + 1) hj hi (by omega)
          have e2 : bs[j + 1] = p := by
            have := List.getElem?_eq_some_iff.mp hp
            exact this.2
          rw [e2] at e1
          exact e1
        have at1 : atI (bsD bs) (((j + 1 : Nat) : Int) - 1) = some (prD bs[j]) := by
          rw [ej]
          exact atI_nat (by unfold bsD; rw [List.getElem?_map, List.getElem?_eq_getElem hj]; rfl)
        rcases hB with rfl | rfl
        · exact ⟨_, at1, _, rfl, itF (show decide (p.1 ≤ bs[j].2) = false from decide_eq_false (by omega)) (hF _ _ ⟨rfl, _, _, rfl⟩)⟩
        · exact ⟨_, at1, _, rfl, itF (show decide (p.1 ≤ bs[j].2) = false from decide_eq_false (by omega)) (hF _ _ ⟨rfl, _, _, rfl⟩)⟩
      · exact itF (decide_eq_false c) (hF _ _ ⟨rfl, _, _, rfl⟩)
    · rintro ρ M' ⟨rfl, x1, x2, rfl⟩
      exact ⟨M', MLe.refl M', hq⟩
  rcases hB with rfl | rfl
  · exact ⟨rfl, itF lenz main⟩
  · exact ⟨rfl, itF lenz main⟩
def sp_is_rate (C : Cl) : PSp := fun ds M q _ => ar1 ds fun d => asP d fun a b => (isSpD (prD (a, b)) = true ∧ 0 < a) ∧ q (.bl true) M
def rd_is_rate (C : Cl) : PTS := (dRet (dAndV (dCall (sp_is_speed C) [] (dCons (dVar 0) dNil)) (dOp fGt (dOp fIx (dVar 0) (dC (.int 0))) (dC (.int 0)))))
theorem sh_is_rate (C : Cl) : Shows (sp_is_rate C) 1 (rd_is_rate C) := by
  intro ds M q e h
  obtain ⟨d, rfl, h⟩ := ar1_of h
  obtain ⟨a, b, rfl, ⟨h0, h1⟩, hq⟩ := asP_of h
  refine ⟨rfl, rfl, itT h0 ⟨_, rfl, M, MLe.refl M, ?_⟩⟩
  show q (.bl (decide (0 < a))) M
  rw [decide_eq_true (show (0 : Int) < a from h1)]
  exact hq
def sp_need_rate (C : Cl) : PSp := fun ds M q _ => ar1 ds fun d => asP d fun a b => (isSpD (prD (a, b)) = true ∧ 0 < a) ∧ q .non M
def rd_need_rate (C : Cl) : PTS := (dIfS (dNot (dTst (dCall (sp_is_rate C) [] (dCons (dVar 0) dNil)))) (dRaise (.ref C.BadSpeed)) dNext)
theorem sh_need_rate (C : Cl) : Shows (sp_need_rate C) 1 (rd_need_rate C) := by
  intro ds M q e h
  obtain ⟨d, rfl, h⟩ := ar1_of h
  obtain ⟨a, b, rfl, h0, hq⟩ := asP_of h
  exact ⟨h0, M, MLe.refl M, hq⟩
def sp_clash_at (C : Cl) : PSp := fun ds M q _ => ar2 ds fun d r => ∃ bs, IsBs d bs ∧ asP r fun a b => (BsOk bs ∧ bs.length ≤ 4 ∧ 0 < bs.length ∧ RtOk a b ∧ isSpD (prD (a, b)) = true) ∧ ∀ d, d = clashD a b bs → q d M
def rd_clash_at (C : Cl) : PTS := (dSeq (dDrop (dCall (sp_need_bands C) [] (dCons (dVar 0) dNil)))
    (dSeq (dDrop (dCall (sp_need_rate C) [] (dCons (dVar 1) dNil)))
    (dRet (dCall (sp_clash_of C) [] (dCons (dVar 0) (dCons (dVar 1) dNil))))))
theorem sh_clash_at (C : Cl) : Shows (sp_clash_at C) 2 (rd_clash_at C) := by
  intro ds M q e h
  obtain ⟨d, r, rfl, bs, hB, h⟩ := ar2_of h
  obtain ⟨a, b, rfl, ⟨hb, hl, h0, hr, hs⟩, hq⟩ := asP_of h
  exact ⟨bs, hB, ⟨hb, hl, h0⟩, ⟨hs, hr.1⟩, bs, hB, ⟨hb, hl, hr⟩, M, MLe.refl M, hq _ rfl⟩
end Px

set_option Elab.async false
set_option linter.all false
set_option maxRecDepth 100000
namespace Px
open PySem PySem.Spec PyProof.Rows L2
/-! # the law's own defs -/
theorem spd_rate {t b : Int} (ht : 1 ≤ t) (hb : 0 < b) : ∃ u v, spd t b = prD (u, v) ∧ 0 < u ∧ u ≤ t ∧ 0 < v ∧ v ≤ b ∧ isSpD (prD (u, v)) = true := by
  obtain ⟨u, v, g, e, u0, v0, g0', ex, ey, ux, vy⟩ := spd_parts (x := t) (by omega) hb
  have hs := spd_ok (t := t) (by omega) hb
  rw [e] at hs
  refine ⟨u, v, e, ?_, ux, v0, vy, hs⟩
  by_cases c : 0 < u
  · exact c
  · exfalso
    have e0 : u = 0 := by omega
    rw [e0, Int.mul_zero] at ex
    omega
def sp__law_is_int (C : Cl) : PSp := fun ds M q _ => ar3 ds fun w f r => asI w fun w => asI f fun f => asI r fun r => (f ≤ w ∧ w ≤ r) ∧ q (.bl true) M
def rd__law_is_int (C : Cl) : PTS := (dRet (dAndV (dB1 (fIsi "int") (dVar 0)) (dAndV (dNotV (dB1 (fIsi "bool") (dVar 0))) (dChain fLe fLe (dVar 1) (dVar 0) (dVar 2)))))
theorem sh__law_is_int (C : Cl) : Shows (sp__law_is_int C) 3 (rd__law_is_int C) := by
  intro ds M q e h
  obtain ⟨x, y, z, rfl, h⟩ := ar3_of h
  obtain ⟨w, e1, h⟩ := asI_of h
  obtain ⟨f, e2, h⟩ := asI_of h
  obtain ⟨r, e3, ⟨h1, h2⟩, hq⟩ := asI_of h
  subst e1 e2 e3
  refine itT (decide_eq_true h1) ⟨M, MLe.refl M, ?_⟩
  show q (.bl (decide (w ≤ r))) M
  rw [decide_eq_true h2]
  exact hq
def sp__law_is_speed (C : Cl) : PSp := fun ds M q _ => ar1 ds fun d => asP d fun x y => (isSpD (prD (x, y)) = true ∧ y ≤ 10 ^ 60) ∧ q (.bl true) M
def rd__law_is_speed (C : Cl) : PTS := (dSeq (dIfS (dOr (dNot (dTst (dB1 (fIsi "tuple") (dVar 0)))) (dTst (dOp fNe (dB1 fLen (dVar 0)) (dC (.int 2))))) (dRet (dC (.bl false))) dNext)
    (dSeq (dFor (iA (dVar 0)) (gNm 1) (dIfS (dOr (dNot (dTst (dB1 (fIsi "int") (dVar 1)))) (dOr (dTst (dB1 (fIsi "bool") (dVar 1))) (dTst (dOp fLt (dVar 1) (dC (.int 0)))))) (dRet (dC (.bl false))) dNext))
    (dRet (dAndV (dOp fGt (dOp fIx (dVar 0) (dC (.int 1))) (dC (.int 0))) (dOp fEq (dCall sp_frac2 [] (dCons (dOp fIx (dVar 0) (dC (.int 0))) (dCons (dOp fIx (dVar 0) (dC (.int 1))) dNil))) (dVar 0))))))
theorem spd_low {x y : Int} (h : isSpD (prD (x, y)) = true) : 0 ≤ x ∧ 0 < y ∧ spd x y = prD (x, y) := by
  have h1 : (decide (0 ≤ x) && (decide (1 ≤ y) && decide (g0 x y = 1))) = true := h
  simp only [Bool.and_eq_true, decide_eq_true_eq] at h1
  refine ⟨h1.1, by omega, ?_⟩
  unfold spd
  rw [h1.2.2, Int.ediv_one, Int.ediv_one]
theorem eqD_int2 (x y u v : Int) : eqD (.tup [.int x, .int y]) (.tup [.int u, .int v]) = (decide (x = u) && (decide (y = v) && true)) := rfl
theorem sh__law_is_speed (C : Cl) : Shows (sp__law_is_speed C) 2 (rd__law_is_speed C) := by
  intro ds M q e h
  obtain ⟨d, rfl, h⟩ := ar1_of h
  obtain ⟨x, y, rfl, ⟨h1, h2⟩, hq⟩ := asP_of h
  obtain ⟨x0, y0, es⟩ := spd_low h1
  refine ⟨rfl, itF (decide_eq_false (by omega)) (itF (decide_eq_false (by omega)) ⟨_, rfl, itT (decide_eq_true y0) ⟨_, rfl, _, rfl, ⟨x0, y0, Bd.sm (by omega) h2⟩, fun d hd => ?_⟩⟩)⟩
  rw [es] at hd
  subst hd
  refine ⟨rfl, M, MLe.refl M, ?_⟩
  show q (.bl (eqD (.tup [.int x, .int y]) (.tup [.int x, .int y]))) M
  rw [eqD_int2, decide_eq_true rfl, decide_eq_true rfl]
  exact hq
def sp__law_less (C : Cl) : PSp := sp_is_below C
theorem sh__law_less (C : Cl) : Shows (sp__law_less C) 2 (rd_is_below C) := sh_is_below C
/-! ## even multiples -/
def evenB (lo hi a b : Int) : Bool := decide (((lo * b - 1) / (2 * a) + 1) * (2 * a) ≤ hi * b)
theorem ceil_is {x n : Int} (h : 0 < n) : -(-x / n) = (x - 1) / n + 1 := by
  have e1 := Int.emod_add_mul_ediv (x - 1) n
  have e2 := Int.emod_nonneg (x - 1) (show n ≠ 0 by omega)
  have e3 := Int.emod_lt_of_pos (x - 1) h
  have f1 := Int.emod_add_mul_ediv (-x) n
  have f2 := Int.emod_nonneg (-x) (show n ≠ 0 by omega)
  have f3 := Int.emod_lt_of_pos (-x) h
  generalize (x - 1) / n = p at *
  generalize -x / n = q at *
  have k : n * p + n * q + n = -1 - (x - 1) % n - -x % n + n := by omega
  have k2 : n * (p + q + 1) = n - 1 - (x - 1) % n - -x % n := by rw [Int.mul_add, Int.mul_add, Int.mul_one]; omega
  have z1 : p + q + 1 < 1 := by
    refine Int.lt_of_mul_lt_mul_left (a := n) ?_ (by omega)
    rw [Int.mul_one, k2]; omega
  have z2 : -1 < p + q + 1 := by
    refine Int.lt_of_mul_lt_mul_left (a := n) ?_ (by omega)
    rw [k2, Int.mul_neg, Int.mul_one]; omega
  omega
theorem even_gap {lo hi a b : Int} (ha : 0 < a) : evenB lo hi a b = gapIs lo hi a b := by
  unfold evenB gapIs
  have e : 2 * gapT lo a b * a = ((lo * b - 1) / (2 * a) + 1) * (2 * a) := by
    have c := ceil_is (x := lo * b) (n := 2 * a) (by omega)
    unfold gapT
    rw [Int.neg_mul, c, Int.mul_comm 2, Int.mul_assoc]
  rw [e]
def sp__law_has_even (C : Cl) : PSp := fun ds M q _ => ar3 ds fun lo hi r => asI lo fun lo => asI hi fun hi => asP r fun a b => (EnOk lo ∧ EnOk hi ∧ RtOk a b) ∧ q (.bl (evenB lo hi a b)) M
def rd__law_has_even (C : Cl) : PTS := (dSeq (dPar 3 4 (dCons (dOp fMul (dC (.int 2)) (dOp fIx (dVar 2) (dC (.int 0)))) (dCons (dOp fDiv (dOp fSub (dOp fMul (dVar 0) (dOp fIx (dVar 2) (dC (.int 1)))) (dC (.int 1))) (dOp fMul (dC (.int 2)) (dOp fIx (dVar 2) (dC (.int 0))))) dNil)))
    (dRet (dOp fLe (dOp fMul (dOp fAdd (dVar 4) (dC (.int 1))) (dVar 3)) (dOp fMul (dVar 1) (dOp fIx (dVar 2) (dC (.int 1)))))))
theorem sh__law_has_even (C : Cl) : Shows (sp__law_has_even C) 5 (rd__law_has_even C) := by
  intro ds M q e h
  obtain ⟨x, y, z, rfl, h⟩ := ar3_of h
  obtain ⟨lo, e1, h⟩ := asI_of h
  obtain ⟨hi, e2, h⟩ := asI_of h
  subst e1 e2
  obtain ⟨a, b, rfl, ⟨h1, h2, hr⟩, hq⟩ := asP_of h
  have a0 := hr.1
  have a1 := hr.2.1
  have m1 := en_mul h1 hr.2.2.1 hr.2.2.2
  have d1 := div_bnd (x := lo * b - 1) (a := 2 * a) (B := 6000 * 10 ^ 30) (by omega) (by decide) (by omega) (by omega)
  have s2a : Sz (2 * a) := ⟨by omega, by omega⟩
  have s3 : Sz ((lo * b - 1) / (2 * a) + 1) := ⟨by omega, by omega⟩
  exact ⟨_, rfl, sz2.mul hr.sa, _, rfl, h1.sz.mul hr.sb, _, rfl, sz2.mul hr.sa, s2a.div (by omega) _, s3.mul s2a, _, rfl, h2.sz.mul hr.sb, M, MLe.refl M, hq⟩
def sp__law_is_folded (C : Cl) : PSp := fun ds M q _ => ar2 ds fun d r => asP d fun l h => asP r fun a b => (EnOk l ∧ EnOk h ∧ RtOk a b) ∧ q (.bl (foldV l h a b).isSome) M
def rd__law_is_folded (C : Cl) : PTS := (dSeq (dSet 2 (dOp fMul (dOp fAdd (dOp fDiv (dOp fMul (dOp fIx (dVar 0) (dC (.int 0))) (dOp fIx (dVar 1) (dC (.int 1)))) (dOp fIx (dVar 1) (dC (.int 0)))) (dC (.int 1))) (dOp fIx (dVar 1) (dC (.int 0)))))
    (dRet (dOp fLt (dVar 2) (dOp fMul (dOp fIx (dVar 0) (dC (.int 1))) (dOp fIx (dVar 1) (dC (.int 1)))))))
theorem sh__law_is_folded (C : Cl) : Shows (sp__law_is_folded C) 3 (rd__law_is_folded C) := by
  intro ds M q e h
  obtain ⟨x, y, rfl, h⟩ := ar2_of h
  obtain ⟨l, h', rfl, h⟩ := asP_of h
  obtain ⟨a, b, rfl, ⟨h1, h2, h3⟩, hq⟩ := asP_of h
  have m1 := en_mul h1 h3.2.2.1 h3.2.2.2
  have d1 := div_bnd (x := l * b) h3.1 (by decide) m1.1 m1.2
  have s1 : Sz (l * b / a + 1) := ⟨by omega, by omega⟩
  refine ⟨_, rfl, _, rfl, h1.sz.mul h3.sb, _, rfl, h3.sa.div h3.1 _, _, rfl, s1.mul h3.sa, _, rfl, _, rfl, h2.sz.mul h3.sb, M, MLe.refl M, ?_⟩
  show q (.bl (decide ((l * b / a + 1) * a < h' * b))) M
  unfold foldV at hq
  by_cases c : (l * b / a + 1) * a < h' * b
  · rw [if_pos c] at hq
    rw [decide_eq_true c]; exact hq
  · rw [if_neg c] at hq
    rw [decide_eq_false c]; exact hq
/-! ## clear of clashes -/
def innerB (a b : Int) (p : Int × Int) : Bs → Bool
  | [] => true
  | x :: r => !evenB (p.1 + x.1) (p.2 + x.2) a b && (!evenB (x.1 - p.2) (x.2 - p.1) a b && innerB a b p r)
def clearB (a b : Int) : Bs → Bool
  | [] => true
  | p :: r => !(foldV p.1 p.2 a b).isSome && (innerB a b p r && clearB a b r)
theorem alike_none {l1 h1 l2 h2 a b : Int} (ha : 0 < a) : alikeD l1 h1 l2 h2 a b = .non ↔ evenB (l1 + l2) (h1 + h2) a b = false ∧ evenB (l2 - h1) (h2 - l1) a b = false := by
  rw [even_gap ha, even_gap ha]
  unfold alikeD
  by_cases c1 : gapIs (l1 + l2) (h1 + h2) a b = true
  · rw [if_pos c1]
    obtain ⟨x, y, e⟩ := gapD_form _ _ _ _ c1
    rw [e, c1]
    constructor
    · intro z; exact nomatch z
    · intro z; exact nomatch z.1
  · rw [if_neg c1]
    by_cases c2 : gapIs (l2 - h1) (h2 - l1) a b = true
    · rw [if_pos c2]
      obtain ⟨x, y, e⟩ := gapD_form _ _ _ _ c2
      rw [e, c2]
      constructor
      · intro z; exact nomatch z
      · intro z; exact nomatch z.2
    · rw [if_neg c2]
      simp only [Bool.not_eq_true] at c1 c2
      exact ⟨fun _ => ⟨c1, c2⟩, fun _ => rfl⟩
theorem pair_none {a b : Int} (ha : 0 < a) (p : Int × Int) : ∀ r : Bs, pairD a b p r = .non ↔ innerB a b p r = true
  | [] => ⟨fun _ => rfl, fun _ => rfl⟩
  | x :: r => by
    unfold pairD innerB
    have k := alike_none (l1 := p.1) (h1 := p.2) (l2 := x.1) (h2 := x.2) (b := b) ha
    rcases alikeD_form p.1 p.2 x.1 x.2 a b with e | ⟨y1, y2, y3, y4, e⟩
    · obtain ⟨k1, k2⟩ := k.mp e
      rw [e, k1, k2]
      exact pair_none ha p r
    · rw [e]
      constructor
      · intro z; exact nomatch z
      · intro z
        simp only [Bool.and_eq_true, Bool.not_eq_true'] at z
        rw [k.mpr ⟨z.1, z.2.1⟩] at e
        exact nomatch e
theorem fold_none {a b : Int} : ∀ (r : Bs) (n : Nat), firstFold a b n r = none ↔ ∀ p ∈ r, (foldV p.1 p.2 a b).isSome = false
  | [], n => ⟨fun _ p hp => (nomatch hp), fun _ => rfl⟩
  | x :: r, n => by
    unfold firstFold
    cases c : foldV x.1 x.2 a b with
    | some t =>
      constructor
      · intro z; exact nomatch z
      · intro z
        have := z x List.mem_cons_self
        rw [c] at this
        exact nomatch this
    | none =>
      show firstFold a b (n + 1) r = none ↔ _
      rw [fold_none r (n + 1)]
      constructor
      · intro z p hp
        rcases List.mem_cons.mp hp with rfl | hp
        · rw [c]; rfl
        · exact z p hp
      · intro z p hp
        exact z p (List.mem_cons_of_mem _ hp)
theorem pairs_clear {a b : Int} (ha : 0 < a) : ∀ r : Bs, (∀ p ∈ r, (foldV p.1 p.2 a b).isSome = false) → (pairsD a b r = .non ↔ clearB a b r = true)
  | [], _ => ⟨fun _ => rfl, fun _ => rfl⟩
  | x :: r, hf => by
    unfold pairsD clearB
    rw [hf x List.mem_cons_self]
    have k := pair_none (b := b) ha x r
    rcases pairD_form a b x r with e | ⟨y1, y2, y3, y4, e⟩
    · rw [e, k.mp e]
      exact pairs_clear ha r fun p hp => hf p (List.mem_cons_of_mem _ hp)
    · rw [e]
      constructor
      · intro z; exact nomatch z
      · intro z
        simp only [Bool.not_false, Bool.true_and, Bool.and_eq_true] at z
        rw [k.mpr z.1] at e
        exact nomatch e
theorem clear_folds {a b : Int} : ∀ r : Bs, clearB a b r = true → ∀ p ∈ r, (foldV p.1 p.2 a b).isSome = false
  | [], _, p, hp => nomatch hp
  | x :: r, h, p, hp => by
    unfold clearB at h
    simp only [Bool.and_eq_true, Bool.not_eq_true'] at h
    rcases List.mem_cons.mp hp with rfl | hp
    · exact h.1
    · exact clear_folds r h.2.2 p hp
/-- the program finds no clash exactly where the law finds all clear -/
theorem clash_clear {a b : Int} (ha : 0 < a) (bs : Bs) : clashD a b bs = .non ↔ clearB a b bs = true := by
  unfold clashD
  cases c : firstFold a b 0 bs with
  | some z =>
    constructor
    · intro z; exact nomatch z
    · intro h
      rw [(fold_none bs 0).mpr (clear_folds bs h)] at c
      exact nomatch c
  | none =>
    rw [← pairs_clear ha bs ((fold_none bs 0).mp c)]
    show alikeT (pairsD a b bs) = .non ↔ _
    rcases pairsD_form a b bs with e | ⟨y1, y2, y3, y4, e⟩
    · rw [e]; exact ⟨fun _ => rfl, fun _ => rfl⟩
    · rw [e]
      constructor
      · intro z; exact nomatch z
      · intro z; exact nomatch z
def sp__law_clear (C : Cl) : PSp := fun ds M q _ => ar2 ds fun d r => ∃ bs, d = .lst (bsD bs) ∧ asP r fun a b => (BsOk bs ∧ RtOk a b) ∧ q (.bl (clearB a b bs)) M
def rd_clear1 (C : Cl) : PTS := (dSeq (dIfS (dTst (dCall (sp__law_has_even C) [] (dCons (dOp fAdd (dVar 3) (dVar 5)) (dCons (dOp fAdd (dVar 4) (dVar 6)) (dCons (dVar 1) dNil))))) (dRet (dC (.bl false))) dNext)
    (dIfS (dTst (dCall (sp__law_has_even C) [] (dCons (dOp fSub (dVar 5) (dVar 4)) (dCons (dOp fSub (dVar 6) (dVar 3)) (dCons (dVar 1) dNil))))) (dRet (dC (.bl false))) dNext))
def rd_clear2 (C : Cl) : PTS := (dSeq (dIfS (dTst (dCall (sp__law_is_folded C) [] (dCons (dTup (dCons (dVar 3) (dCons (dVar 4) dNil))) (dCons (dVar 1) dNil)))) (dRet (dC (.bl false))) dNext)
    (dFor (iA (dSl (dVar 0) (dPt (dOp fAdd (dVar 2) (dC (.int 1)))) dNo)) (gTp 2 (gsCons (gNm 5) (gsCons (gNm 6) gsNil))) (rd_clear1 C)))
def rd__law_clear (C : Cl) : PTS := (dSeq (dFor (iEA (dVar 0)) (gTp 2 (gsCons (gNm 2) (gsCons (gTp 2 (gsCons (gNm 3) (gsCons (gNm 4) gsNil))) gsNil))) (rd_clear2 C))
    (dRet (dC (.bl true))))
theorem en_of {p : Int × Int} (h : BdOk p) : EnOk p.1 ∧ EnOk p.2 := by
  obtain ⟨h1, h2, h3⟩ := h
  exact ⟨⟨by omega, by omega⟩, ⟨by omega, by omega⟩⟩
theorem clear_inner {C : Cl} {w : PWi} {B x2 : Option Sv} {a b : Int} {M : Mm} {P : PEnds} {p : Int × Int} (hr : RtOk a b) (hp : BdOk p) : ∀ (r : Bs), (∀ x ∈ r, BdOk x) →
    (innerB a b p r = false → P.rt (.bl false) M) → (innerB a b p r = true → ∀ x5 x6, P.nx [B, some (.val (prD (a, b))), x2, some (.val (.int p.1)), some (.val (.int p.2)), x5, x6] M) →
    ∀ x5 x6, forR (gTp 2 (gsCons (gNm 5) (gsCons (gNm 6) gsNil))) (rd_clear1 C) w (bsD r) P [B, some (.val (prD (a, b))), x2, some (.val (.int p.1)), some (.val (.int p.2)), x5, x6] M
  | [], _, _, h2, x5, x6 => h2 rfl _ _
  | x :: r, hb, h1, h2, x5, x6 => by
    have hx := hb x List.mem_cons_self
    obtain ⟨a1, a2, a3⟩ := hp
    obtain ⟨b1, b2, b3⟩ := hx
    refine ⟨rfl, ⟨⟨by omega, by omega⟩, ⟨by omega, by omega⟩, hr⟩, ?_⟩
    unfold innerB at h1 h2
    cases c1 : evenB (p.1 + x.1) (p.2 + x.2) a b with
    | true =>
      rw [c1] at h1
      exact h1 rfl
    | false =>
      rw [c1] at h1 h2
      refine ⟨⟨⟨by omega, by omega⟩, ⟨by omega, by omega⟩, hr⟩, ?_⟩
      cases c2 : evenB (x.1 - p.2) (x.2 - p.1) a b with
      | true =>
        rw [c2] at h1
        exact h1 rfl
      | false =>
        rw [c2] at h1 h2
        exact clear_inner hr ⟨a1, a2, a3⟩ r (fun z hz => hb z (List.mem_cons_of_mem _ hz)) h1 h2 _ _
theorem clear_outer {C : Cl} {w : PWi} {a b : Int} {M : Mm} {P : PEnds} {bs : Bs} (hr : RtOk a b) : ∀ (r pre : Bs), bs = pre ++ r → (∀ p ∈ r, BdOk p) →
    (clearB a b r = false → P.rt (.bl false) M) → (clearB a b r = true → ∀ x2 x3 x4 x5 x6, P.nx [some (.val (.lst (bsD bs))), some (.val (prD (a, b))), x2, x3, x4, x5, x6] M) →
    ∀ x2 x3 x4 x5 x6, forR (gTp 2 (gsCons (gNm 2) (gsCons (gTp 2 (gsCons (gNm 3) (gsCons (gNm 4) gsNil))) gsNil))) (rd_clear2 C) w (enumD pre.length (bsD r)) P [some (.val (.lst (bsD bs))), some (.val (prD (a, b))), x2, x3, x4, x5, x6] M
  | [], pre, _, _, _, h2, x2, x3, x4, x5, x6 => h2 rfl _ _ _ _ _
  | p :: r, pre, eb, hb, h1, h2, x2, x3, x4, x5, x6 => by
    have hp := hb p List.mem_cons_self
    have ecut : (bsD bs).drop (pre.length + 1) = bsD r := by
      rw [eb]
      unfold bsD
      rw [List.map_append, show pre.length + 1 = (pre.map prD).length + 1 by rw [List.length_map], List.drop_append, List.drop_eq_nil_of_le (by omega)]
      simp
    have ec : cutD (bsD bs) (some ((pre.length : Int) + 1)) none = bsD r := by rw [cut_from, ecut]
    unfold clearB at h1 h2
    refine ⟨rfl, rfl, by simp, ⟨(en_of hp).1, (en_of hp).2, hr⟩, ?_⟩
    cases c0 : (foldV p.1 p.2 a b).isSome with
    | true =>
      rw [c0] at h1
      exact h1 rfl
    | false =>
      rw [c0] at h1 h2
      have rest : innerB a b p r = true → ∀ x2 x3 x4 x5 x6, forR (gTp 2 (gsCons (gNm 2) (gsCons (gTp 2 (gsCons (gNm 3) (gsCons (gNm 4) gsNil))) gsNil))) (rd_clear2 C) w (enumD (pre.length + 1) (bsD r)) P [some (.val (.lst (bsD bs))), some (.val (prD (a, b))), x2, x3, x4, x5, x6] M := fun e x2 x3 x4 x5 x6 => by
        have z := clear_outer (C := C) (w := w) hr r (pre ++ [p]) (by rw [eb]; simp) (fun x hx => hb x (List.mem_cons_of_mem _ hx)) (fun e2 => h1 (by rw [e, e2]; rfl)) (fun e2 => h2 (by rw [e, e2]; rfl)) x2 x3 x4 x5 x6
        rw [List.length_append] at z
        exact z
      have fin : ∀ F : Rho → Mm → Prop, (innerB a b p r = true → ∀ x5 x6, F [some (.val (.lst (bsD bs))), some (.val (prD (a, b))), some (.val (.int (pre.length : Nat))), some (.val (.int p.1)), some (.val (.int p.2)), x5, x6] M) →
          ∀ L : List D, L = bsD r → ∀ x5 x6 : Option Sv, forR (gTp 2 (gsCons (gNm 5) (gsCons (gNm 6) gsNil))) (rd_clear1 C) w L { P with nx := F, ct := F, bk := P.nx }
          [some (.val (.lst (bsD bs))), some (.val (prD (a, b))), some (.val (.int (pre.length : Nat))), some (.val (.int p.1)), some (.val (.int p.2)), x5, x6] M := by
        rintro F hF L rfl x5 x6
        exact clear_inner (P := { P with nx := F, ct := F, bk := P.nx }) hr hp r (fun x hx => hb x (List.mem_cons_of_mem _ hx)) (fun e => h1 (by rw [e]; rfl)) hF x5 x6
      exact fin _ (fun e x5 x6 => rest e _ _ _ _ _) _ ec x5 x6
theorem sh__law_clear (C : Cl) : Shows (sp__law_clear C) 7 (rd__law_clear C) := by
  intro ds M q e h0
  obtain ⟨d, r, e0, bs, e1, h⟩ := ar2_of h0
  obtain ⟨a, b, e2, ⟨hb, hr⟩, hq⟩ := asP_of h
  subst e0 e1 e2
  show forR _ (rd_clear2 C) _ (enumD 0 (bsD bs)) _ [some (.val _), some (.val (prD (a, b))), none, none, none, none, none] M
  refine clear_outer hr bs [] rfl hb.1 ?_ ?_ _ _ _ _ _
  · intro e2
    rw [e2] at hq
    exact ⟨M, MLe.refl M, hq⟩
  · intro e2 x2 x3 x4 x5 x6
    rw [e2] at hq
    exact ⟨M, MLe.refl M, hq⟩
end Px

set_option Elab.async false
set_option linter.all false
set_option maxRecDepth 100000
namespace Px
open PySem PySem.Spec PyProof.Rows L2
def RtF (a b : Int) : Prop := RtOk a b ∧ a ≤ 10 ^ 20 ∧ isSpD (prD (a, b)) = true ∧ b ≤ 10 ^ 20
def sp__law_rate (C : Cl) : PSp := fun ds M q _ => ar1 ds fun d => asDraw d M (∀ u v, RtF u v → q (prD (u, v)) M)
def rd__law_rate (C : Cl) : PTS := (dSeq (dSet 1 (dCall sp_pick [] (dCons (dVar 0) (dCons (dL (dLst (dCons (dC (.int 1)) (dCons (dC (.int 1)) (dCons (dC (.int 2)) (dCons (dC (.int 3)) (dCons (dC (.int 7)) (dCons (dC (.int 1000)) dNil)))))))) dNil))))
    (dRet (dCall sp_frac2 [] (dCons (dOp fAdd (dC (.int 1)) (dCall sp_take [] (dCons (dVar 0) (dCons (dOp fMul (dCall sp_pick [] (dCons (dVar 0) (dCons (dL (dLst (dCons (dC (.int 20)) (dCons (dC (.int 100)) (dCons (dC (.int 2100)) dNil))))) dNil))) (dVar 1)) dNil)))) (dCons (dVar 1) dNil)))))
theorem rtf_of {t b : Int} (h1 : 1 ≤ t) (h2 : t ≤ 10 ^ 20) (h3 : 0 < b) (h4 : b ≤ 10 ^ 20) : ∃ u v, spd t b = prD (u, v) ∧ RtF u v ∧ u ≤ t ∧ v ≤ b := by
  obtain ⟨u, v, e, u0, ut, v0, vb, hs⟩ := spd_rate h1 h3
  exact ⟨u, v, e, ⟨⟨u0, by omega, v0, by omega⟩, by omega, hs, by omega⟩, ut, vb⟩
theorem sh__law_rate (C : Cl) : Shows (sp__law_rate C) 2 (rd__law_rate C) := by
  intro ds M q e h
  obtain ⟨d, rfl, h⟩ := ar1_of h
  obtain ⟨a, rfl, hm, hq⟩ := asDraw_of h
  refine ⟨by decide, hm, ⟨by decide, by decide⟩, fun x hx => ?_⟩
  obtain ⟨b, rfl, b1, b2⟩ : ∃ n : Int, x = .int n ∧ 1 ≤ n ∧ n ≤ 1000 := by
    simp only [List.mem_cons, List.not_mem_nil, or_false] at hx
    rcases hx with rfl | rfl | rfl | rfl | rfl | rfl <;> exact ⟨_, rfl, by decide, by decide⟩
  refine ⟨by decide, hm, ⟨by decide, by decide⟩, fun x hx => ?_⟩
  obtain ⟨m, rfl, m1, m2⟩ : ∃ n : Int, x = .int n ∧ 1 ≤ n ∧ n ≤ 2100 := by
    simp only [List.mem_cons, List.not_mem_nil, or_false] at hx
    rcases hx with rfl | rfl | rfl <;> exact ⟨_, rfl, by decide, by decide⟩
  have p0 : 0 < m * b := Int.mul_pos (by omega) (by omega)
  have p1 : m * b ≤ 2100 * 1000 := Int.mul_le_mul m2 b2 (by omega) (by omega)
  refine ⟨mulx_small (by omega) (by omega) (by omega) (by omega), hm, ⟨p0, log_sm (by omega) (by omega)⟩, fun k k0 k1 => ?_⟩
  obtain ⟨u, v, es, hr, _, _⟩ := rtf_of (t := 1 + k) (b := b) (by omega) (by omega) (by omega) (by omega)
  refine ⟨⟨by omega, by omega, Bd.sm (by omega) (by omega)⟩, fun d hd => ⟨M, MLe.refl M, ?_⟩⟩
  rw [es] at hd
  rw [hd]
  exact hq u v hr
def sp__law_near_rate (C : Cl) : PSp := fun ds M q _ => ar2 ds fun d l => asDraw d M (∃ bs, l = .lst (bsD bs) ∧ (BsOk bs ∧ 0 < bs.length ∧ bs.length ≤ 4) ∧ ∀ u v, RtF u v → q (prD (u, v)) M)
def rd__law_near_rate (C : Cl) : PTS := (dSeq (dPar 2 3 (dCons (dCall sp_pick [] (dCons (dVar 0) (dCons (dVar 1) dNil))) (dCons (dCall sp_pick [] (dCons (dVar 0) (dCons (dVar 1) dNil))) dNil)))
    (dSeq (dSet 4 (dL (dLst (dCons (dOp fMul (dC (.int 2)) (dOp fIx (dVar 2) (dC (.int 0)))) (dCons (dOp fMul (dC (.int 2)) (dOp fIx (dVar 2) (dC (.int 1)))) (dCons (dOp fAdd (dOp fIx (dVar 2) (dC (.int 0))) (dOp fIx (dVar 3) (dC (.int 0)))) (dCons (dOp fAdd (dOp fIx (dVar 2) (dC (.int 1))) (dOp fIx (dVar 3) (dC (.int 1)))) (dCons (dB1 fAbs (dOp fSub (dOp fIx (dVar 2) (dC (.int 0))) (dOp fIx (dVar 3) (dC (.int 1))))) dNil))))))))
    (dSeq (dSet 5 (dCall sp_pick [] (dCons (dVar 0) (dCons (dVar 4) dNil))))
    (dSeq (dSet 6 (dCall sp_frac2 [] (dCons (dOp fMax2 (dC (.int 1)) (dVar 5)) (dCons (dOp fMul (dC (.int 2)) (dOp fAdd (dC (.int 1)) (dCall sp_take [] (dCons (dVar 0) (dCons (dC (.int 12)) dNil))))) dNil))))
    (dSeq (dSet 7 (dCall sp_take [] (dCons (dVar 0) (dCons (dC (.int 4)) dNil))))
    (dSeq (dIfS (dTst (dOp fEq (dVar 7) (dC (.int 0)))) (dRet (dCall (sp__law_rate C) [] (dCons (dVar 0) dNil))) dNext)
    (dSeq (dIfS (dTst (dOp fEq (dVar 7) (dC (.int 1)))) (dRet (dCall sp_frac2 [] (dCons (dOp fAdd (dOp fMul (dOp fIx (dVar 6) (dC (.int 0))) (dOp fPow (dC (.int 10)) (dC (.int 9)))) (dC (.int 1))) (dCons (dOp fMul (dOp fIx (dVar 6) (dC (.int 1))) (dOp fPow (dC (.int 10)) (dC (.int 9)))) dNil)))) dNext)
    (dRet (dIf (dTst (dOp fEq (dVar 7) (dC (.int 2)))) (dCall sp_frac2 [] (dCons (dOp fSub (dOp fMul (dOp fIx (dVar 6) (dC (.int 0))) (dOp fPow (dC (.int 10)) (dC (.int 9)))) (dC (.int 1))) (dCons (dOp fMul (dOp fIx (dVar 6) (dC (.int 1))) (dOp fPow (dC (.int 10)) (dC (.int 9)))) dNil))) (dVar 6))))))))))
theorem bsD_mem {bs : Bs} {x : D} (h : x ∈ bsD bs) : ∃ p ∈ bs, x = prD p := by
  obtain ⟨p, hp, e⟩ := List.mem_map.mp h
  exact ⟨p, hp, e.symm⟩
theorem pow9 : (10 : Int) ^ (9 : Int).toNat = 10 ^ 9 := rfl
theorem sh__law_near_rate (C : Cl) : Shows (sp__law_near_rate C) 8 (rd__law_near_rate C) := by
  intro ds M q e h
  obtain ⟨d, l, rfl, h⟩ := ar2_of h
  obtain ⟨a, rfl, hm, bs, rfl, ⟨hb, h0, h4⟩, hq⟩ := asDraw_of h
  have hlen : (bsD bs).length = bs.length := List.length_map ..
  refine ⟨hm, ⟨by omega, by omega⟩, fun x hx => ?_⟩
  obtain ⟨p, hp, rfl⟩ := bsD_mem hx
  refine ⟨hm, ⟨by omega, by omega⟩, fun x hx => ?_⟩
  obtain ⟨r, hr, rfl⟩ := bsD_mem hx
  obtain ⟨p0, p1, p2⟩ := hb.1 p hp
  obtain ⟨r0, r1, r2⟩ := hb.1 r hr
  refine ⟨_, rfl, mulx_small (by omega) (by omega) (by omega) (by omega), _, rfl, mulx_small (by omega) (by omega) (by omega) (by omega), _, rfl, _, rfl, _, rfl, _, rfl, _, rfl, _, rfl, by simp, hm, ⟨by simp, by simp⟩, fun x hx => ?_⟩
  obtain ⟨n, rfl, n1, n2⟩ : ∃ n : Int, x = .int n ∧ 0 ≤ n ∧ n ≤ 2000 := by
    simp only [List.mem_cons, List.not_mem_nil, or_false] at hx
    rcases hx with rfl | rfl | rfl | rfl | rfl
    · exact ⟨_, rfl, by omega, by omega⟩
    · exact ⟨_, rfl, by omega, by omega⟩
    · exact ⟨_, rfl, by omega, by omega⟩
    · exact ⟨_, rfl, by omega, by omega⟩
    · exact ⟨_, rfl, by split <;> omega, by split <;> omega⟩
  refine ⟨hm, ⟨by decide, by decide⟩, fun k k0 k1 => ?_⟩
  have t1 : 1 ≤ (if n > 1 then n else 1) := by split <;> omega
  have t2 : (if n > 1 then n else 1) ≤ 2000 := by split <;> omega
  obtain ⟨u, v, es, hr, hu, hv⟩ := rtf_of (t := if n > 1 then n else 1) (b := 2 * (1 + k)) t1 (by omega) (by omega) (by omega)
  have hr' := hr
  obtain ⟨⟨u0, u1, v0, v1⟩, u2, us⟩ := hr'
  refine ⟨mulx_small (by omega) (by omega) (by omega) (by omega), ⟨by omega, by omega, Bd.sm (by omega) (by omega)⟩, fun d hd => ?_⟩
  rw [es] at hd
  subst hd
  refine ⟨hm, ⟨by decide, by decide⟩, fun y y0 y1 => ⟨rfl, ?_⟩⟩
  by_cases c0 : y = 0
  · exact itT (decide_eq_true c0) ⟨hm, fun u v h => ⟨M, MLe.refl M, hq u v h⟩⟩
  refine itF (decide_eq_false c0) ⟨rfl, ?_⟩
  have su : Sz u := ⟨by omega, by omega⟩
  have sv : Sz v := ⟨by omega, by omega⟩
  have s9 : Sz ((10 : Int) ^ (9 : Int).toNat) := by rw [pow9]; exact ⟨by decide, by decide⟩
  have up : u * 10 ^ 9 ≤ 2000 * 10 ^ 9 := Int.mul_le_mul_of_nonneg_right (by omega) (by decide)
  have up1 : 1 * 10 ^ 9 ≤ u * 10 ^ 9 := Int.mul_le_mul_of_nonneg_right (by omega) (by decide)
  have vp : v * 10 ^ 9 ≤ 24 * 10 ^ 9 := Int.mul_le_mul_of_nonneg_right (by omega) (by decide)
  have vp1 : 1 * 10 ^ 9 ≤ v * 10 ^ 9 := Int.mul_le_mul_of_nonneg_right (by omega) (by decide)
  have cp : CPow 10 9 := ⟨by decide, by decide, by decide⟩
  by_cases c1 : y = 1
  · obtain ⟨u', v', es', hr', _, _⟩ := rtf_of (t := u * 10 ^ 9 + 1) (b := v * 10 ^ 9) (by omega) (by omega) (by omega) (by omega)
    refine itT (decide_eq_true c1) ⟨_, rfl, cp, su.mul s9, _, rfl, cp, sv.mul s9, ⟨by rw [pow9]; omega, by rw [pow9]; omega, Bd.sm (by rw [pow9]; omega) (by rw [pow9]; omega)⟩, fun d hd => ⟨M, MLe.refl M, ?_⟩⟩
    rw [pow9, es'] at hd
    rw [hd]
    exact hq _ _ hr'
  refine itF (decide_eq_false c1) ⟨rfl, ?_⟩
  by_cases c2 : y = 2
  · obtain ⟨u', v', es', hr', _, _⟩ := rtf_of (t := u * 10 ^ 9 - 1) (b := v * 10 ^ 9) (by omega) (by omega) (by omega) (by omega)
    refine itT (decide_eq_true c2) ⟨_, rfl, cp, su.mul s9, _, rfl, cp, sv.mul s9, ⟨by rw [pow9]; omega, by rw [pow9]; omega, Bd.sm (by rw [pow9]; omega) (by rw [pow9]; omega)⟩, fun d hd => ⟨M, MLe.refl M, ?_⟩⟩
    rw [pow9, es'] at hd
    rw [hd]
    exact hq _ _ hr'
  exact itF (decide_eq_false c2) ⟨M, MLe.refl M, hq _ _ hr⟩
/-! ## seen at a rate -/
def seenAt (a b x y : Int) : D := spd (near (2 * a * y) (x * b)) (y * b)
def sp__law_seen_at (C : Cl) : PSp := fun ds M q _ => ar2 ds fun r d => asP r fun a b => asP d fun x y => (RtOk a b ∧ 0 ≤ x ∧ x ≤ 10 ^ 40 ∧ 0 < y ∧ y ≤ 10 ^ 25) ∧ ∀ z, z = seenAt a b x y → q z M
def rd__law_seen_at (C : Cl) : PTS := (dSeq (dPar 2 3 (dCons (dOp fMul (dOp fIx (dVar 1) (dC (.int 0))) (dOp fIx (dVar 0) (dC (.int 1)))) (dCons (dOp fMul (dOp fMul (dC (.int 2)) (dOp fIx (dVar 0) (dC (.int 0)))) (dOp fIx (dVar 1) (dC (.int 1)))) dNil)))
    (dSeq (dSet 4 (dOp fSub (dVar 2) (dOp fMul (dOp fDiv (dVar 2) (dVar 3)) (dVar 3))))
    (dRet (dCall sp_frac2 [] (dCons (dOp fMin2 (dVar 4) (dOp fSub (dVar 3) (dVar 4))) (dCons (dOp fMul (dOp fIx (dVar 1) (dC (.int 1))) (dOp fIx (dVar 0) (dC (.int 1)))) dNil))))))
end Px

set_option Elab.async false
set_option linter.all false
set_option maxRecDepth 100000
namespace Px
open PySem PySem.Spec PyProof.Rows L2
def Sx (i : Int) : Prop := -(10 ^ 150) ≤ i ∧ i ≤ 10 ^ 150
theorem Sx.mul {i j : Int} (h : Sx i) (h' : Sx j) : CMulX i j :=
  cmul_of (a := 600) (b := 600) (Nat.lt_of_le_of_lt (show i.natAbs ≤ 10 ^ 150 by have := h.1; have := h.2; omega) (by decide)) (Nat.lt_of_le_of_lt (show j.natAbs ≤ 10 ^ 150 by have := h'.1; have := h'.2; omega) (by decide)) (by decide)
theorem Sx.bd {i : Int} (h : Sx i) : Bd i := by
  have a1 : i.natAbs ≤ 10 ^ 150 := by have := h.1; have := h.2; omega
  exact Nat.lt_of_le_of_lt a1 (Nat.lt_of_lt_of_le (show 10 ^ 150 < 2 ^ 600 by decide) (Nat.pow_le_pow_right (by decide) (by decide)))
theorem Sx.div {i : Int} (h : Sx i) (h0 : 0 < i) (j : Int) : CDivW j i := h.bd.div h0 j
def sp__law_seen_at2 (C : Cl) : PSp := fun ds M q _ => ar2 ds fun r d => asP r fun a b => asP d fun x y => (RtOk a b ∧ (0 ≤ x ∧ x ≤ 10 ^ 40) ∧ (0 < y ∧ y ≤ 10 ^ 31)) ∧ ∀ z, z = seenAt a b x y → q z M
theorem sh__law_seen_at2 (C : Cl) : Shows (sp__law_seen_at2 C) 5 (rd__law_seen_at C) := by
  intro ds M q e h
  obtain ⟨r, d, rfl, h⟩ := ar2_of h
  obtain ⟨a, b, rfl, h⟩ := asP_of h
  obtain ⟨x, y, rfl, ⟨⟨a0, a1, b0, b1⟩, ⟨x0, x1⟩, y0, y1⟩, hq⟩ := asP_of h
  have t0 : 0 ≤ x * b := Int.mul_nonneg x0 (by omega)
  have t1 : x * b ≤ 10 ^ 40 * 10 ^ 30 := Int.mul_le_mul x1 b1 (by omega) (by decide)
  have s0 : 0 < 2 * a * y := Int.mul_pos (by omega) y0
  have s1 : 2 * a * y ≤ (2 * 10 ^ 30) * 10 ^ 31 := Int.mul_le_mul (by omega) y1 (by omega) (by decide)
  have d0 : 0 ≤ x * b / (2 * a * y) := Int.ediv_nonneg t0 (by omega)
  have d1 : x * b / (2 * a * y) ≤ x * b := Int.ediv_le_self _ t0
  have yb0 : 0 < y * b := Int.mul_pos y0 b0
  have yb1 : y * b ≤ 10 ^ 31 * 10 ^ 30 := Int.mul_le_mul y1 b1 (by omega) (by decide)
  have er : x * b - x * b / (2 * a * y) * (2 * a * y) = x * b % (2 * a * y) := by rw [Int.emod_def, Int.mul_comm (2 * a * y)]
  have nb := near_bounds s0 (x * b)
  have X1 : Sx x := ⟨by omega, by omega⟩
  have B1 : Sx b := ⟨by omega, by omega⟩
  have A1 : Sx a := ⟨by omega, by omega⟩
  have Y1 : Sx y := ⟨by omega, by omega⟩
  have T2 : Sx 2 := ⟨by decide, by decide⟩
  have A2 : Sx (2 * a) := ⟨by omega, by omega⟩
  have S1 : Sx (2 * a * y) := ⟨by omega, by omega⟩
  have D1 : Sx (x * b / (2 * a * y)) := ⟨by omega, by omega⟩
  have Q1 : Sx (y * b) := ⟨by omega, by omega⟩
  refine ⟨_, rfl, _, rfl, X1.mul B1, _, rfl, T2.mul A1, _, rfl, A2.mul Y1, S1.div s0 _, D1.mul S1, _, rfl, _, rfl, Y1.mul B1, ?_⟩
  have em : (if 2 * a * y - (x * b - x * b / (2 * a * y) * (2 * a * y)) < (x * b - x * b / (2 * a * y) * (2 * a * y)) then 2 * a * y - (x * b - x * b / (2 * a * y) * (2 * a * y)) else (x * b - x * b / (2 * a * y) * (2 * a * y))) = near (2 * a * y) (x * b) := by rw [er]; rfl
  refine ⟨⟨by rw [em]; exact nb.1, yb0, Q1.bd⟩, fun d hd => ⟨M, MLe.refl M, ?_⟩⟩
  rw [em] at hd
  exact hq d hd
/-! ## the bands of a speed -/
def bandOf (x y : Int) : Nat → Bs → List D
  | _, [] => []
  | n, p :: r => if p.1 * y ≤ x ∧ x ≤ p.2 * y then .int n :: bandOf x y (n + 1) r else bandOf x y (n + 1) r
def sp__law_band_of (C : Cl) : PSp := fun ds M q _ => ar2 ds fun d o => ∃ bs, d = .lst (bsD bs) ∧ asP o fun x y => ((∀ p ∈ bs, BdOk p) ∧ bs.length ≤ 4 ∧ Sz y) ∧ ∀ z, z = .lst (bandOf x y 0 bs) → q z M
def rd_band1 : PTS := (dIfS (dTst (dChain fLe fLe (dOp fMul (dVar 4) (dOp fIx (dVar 1) (dC (.int 1)))) (dOp fIx (dVar 1) (dC (.int 0))) (dOp fMul (dVar 5) (dOp fIx (dVar 1) (dC (.int 1)))))) (dApp 2 (dVar 3)) dNext)
def rd__law_band_of (C : Cl) : PTS := (dSeq (dSetO 2 (dLst dNil))
    (dSeq (dFor (iEA (dVar 0)) (gTp 2 (gsCons (gNm 3) (gsCons (gTp 2 (gsCons (gNm 4) (gsCons (gNm 5) gsNil))) gsNil))) rd_band1)
    (dFrz 2 (dRet (dVar 2)))))
theorem band_loop {w : PWi} {B : Option Sv} {x y : Int} {M : Mm} {P : PEnds} (hy : Sz y) : ∀ (r : Bs) (n : Nat) (acc : List D), acc.length + r.length ≤ 100 → (∀ p ∈ r, BdOk p) →
    (∀ x3 x4 x5, P.nx [B, some (.val (prD (x, y))), some (.own (acc ++ bandOf x y n r)), x3, x4, x5] M) →
    ∀ x3 x4 x5, forR (gTp 2 (gsCons (gNm 3) (gsCons (gTp 2 (gsCons (gNm 4) (gsCons (gNm 5) gsNil))) gsNil))) rd_band1 w (enumD n (bsD r)) P [B, some (.val (prD (x, y))), some (.own acc), x3, x4, x5] M
  | [], n, acc, hl, hb, h, x3, x4, x5 => by
    have h := h x3 x4 x5
    unfold bandOf at h
    rw [List.append_nil] at h
    exact h
  | p :: r, n, acc, hl, hb, h, x3, x4, x5 => by
    have hl' : acc.length + r.length + 1 ≤ 100 := by rw [List.length_cons] at hl; omega
    obtain ⟨k1, k2⟩ := en_of (hb p List.mem_cons_self)
    have hbr := fun z hz => hb z (List.mem_cons_of_mem _ hz)
    unfold bandOf at h
    refine ⟨rfl, rfl, _, rfl, k1.sz.mul hy, _, rfl, ?_⟩
    by_cases c1 : p.1 * y ≤ x
    · refine itT (decide_eq_true c1) ⟨_, rfl, k2.sz.mul hy, ?_⟩
      by_cases c2 : x ≤ p.2 * y
      · rw [if_pos ⟨c1, c2⟩] at h
        refine itT (decide_eq_true c2) ⟨trivial, by omega, ?_⟩
        refine band_loop hy r (n + 1) (acc ++ [.int (n : Nat)]) (by rw [List.length_append, List.length_singleton]; omega) hbr (fun x3 x4 x5 => ?_) _ _ _
        rw [List.append_assoc]
        exact h x3 x4 x5
      · rw [if_neg (fun z => c2 z.2)] at h
        exact itF (decide_eq_false c2) (band_loop hy r (n + 1) acc (by omega) hbr h _ _ _)
    · rw [if_neg (fun z => c1 z.1)] at h
      exact itF (decide_eq_false c1) (band_loop hy r (n + 1) acc (by omega) hbr h _ _ _)
theorem sh__law_band_of (C : Cl) : Shows (sp__law_band_of C) 6 (rd__law_band_of C) := by
  intro ds M q e h0
  obtain ⟨d, o, e1, bs, e2, h⟩ := ar2_of h0
  obtain ⟨x, y, e3, ⟨hb, hl, hy⟩, hq⟩ := asP_of h
  subst e1 e2 e3
  refine ⟨by simp, ?_⟩
  show forR _ rd_band1 _ (enumD 0 (bsD bs)) _ [some (.val _), some (.val (prD (x, y))), some (.own []), none, none, none] M
  refine band_loop hy bs 0 [] (by simp; omega) hb ?_ _ _ _
  intro x3 x4 x5
  exact ⟨M, MLe.refl M, hq _ rfl⟩
end Px

set_option Elab.async false
set_option linter.all false
set_option maxRecDepth 100000
namespace Px
open PySem PySem.Spec PyProof.Rows L2
/-! # pieces of a line of places -/
section
variable {α : Type} {V : α → Prop} {lt : α → α → Prop}
structure LinO (V : α → Prop) (lt : α → α → Prop) : Prop where
  irr : ∀ x, ¬ lt x x
  tr : ∀ x y z, lt x y → lt y z → V x → V y → V z → lt x z
  tot : ∀ x y, V x → V y → lt x y ∨ x = y ∨ lt y x
def leO (lt : α → α → Prop) (x y : α) : Prop := x = y ∨ lt x y
/-- what pieces cover -/
def cov (lt : α → α → Prop) (R : List (α × α)) (c : α) : Prop := ∃ p ∈ R, leO lt p.1 c ∧ lt c p.2
structure Pcs (V : α → Prop) (lt : α → α → Prop) (lo hi : α) (R : List (α × α)) : Prop where
  pw : R.Pairwise fun p q => lt p.2 q.1
  el : ∀ p ∈ R, V p.1 ∧ V p.2 ∧ lt p.1 p.2 ∧ leO lt lo p.1 ∧ leO lt p.2 hi
theorem LinO.le_lt (O : LinO V lt) {x y z : α} (h : leO lt x y) (k : lt y z) (hx : V x) (hy : V y) (hz : V z) : lt x z := by
  rcases h with rfl | h
  · exact k
  · exact O.tr _ _ _ h k hx hy hz
theorem LinO.lt_le (O : LinO V lt) {x y z : α} (h : lt x y) (k : leO lt y z) (hx : V x) (hy : V y) (hz : V z) : lt x z := by
  rcases k with rfl | k
  · exact h
  · exact O.tr _ _ _ h k hx hy hz
theorem LinO.le_le (O : LinO V lt) {x y z : α} (h : leO lt x y) (k : leO lt y z) (hx : V x) (hy : V y) (hz : V z) : leO lt x z := by
  rcases h with rfl | h
  · exact k
  · exact .inr (O.lt_le h k hx hy hz)
theorem LinO.asym (O : LinO V lt) {x y : α} (h : lt x y) (k : leO lt y x) (hx : V x) (hy : V y) : False := O.irr x (O.lt_le h k hx hy hx)
theorem LinO.nlt (O : LinO V lt) {x y : α} (hx : V x) (hy : V y) : ¬ lt x y ↔ leO lt y x := by
  constructor
  · intro h
    rcases O.tot x y hx hy with k | k | k
    · exact absurd k h
    · exact .inl k.symm
    · exact .inr k
  · intro h k
    exact O.asym k h hx hy
theorem Pcs.tail {lo hi : α} {p : α × α} {R : List (α × α)} (h : Pcs V lt lo hi (p :: R)) : Pcs V lt lo hi R := ⟨(List.pairwise_cons.mp h.pw).2, fun q hq => h.el q (List.mem_cons_of_mem _ hq)⟩
/-- the first piece is not covered by later ones -/
theorem Pcs.apart (O : LinO V lt) {lo hi : α} {p : α × α} {R : List (α × α)} (h : Pcs V lt lo hi (p :: R)) {c : α} (hc : V c) (k : leO lt c p.2) : ¬ cov lt R c := by
  rintro ⟨q, hq, h1, h2⟩
  have h3 := (List.pairwise_cons.mp h.pw).1 q hq
  have v1 := h.el p List.mem_cons_self
  have v2 := h.el q (List.mem_cons_of_mem _ hq)
  exact O.asym h3 (O.le_le h1 k v2.1 hc v1.2.1) v1.2.1 v2.1
/-- one way to cover the same alone -/
theorem Pcs.uniq (O : LinO V lt) {lo hi : α} (vlo : V lo) (vhi : V hi) : ∀ {R S : List (α × α)}, Pcs V lt lo hi R → Pcs V lt lo hi S → (∀ c, V c → leO lt lo c → lt c hi → (cov lt R c ↔ cov lt S c)) → R = S
  | [], [], _, _, _ => rfl
  | [], q :: S, _, hS, h => by
    obtain ⟨v1, v2, v3, v4, v5⟩ := hS.el q List.mem_cons_self
    obtain ⟨p, hp, _⟩ := (h q.1 v1 v4 (O.lt_le v3 v5 v1 v2 vhi)).mpr ⟨q, List.mem_cons_self, .inl rfl, v3⟩
    cases hp
  | p :: R, [], hR, _, h => by
    obtain ⟨v1, v2, v3, v4, v5⟩ := hR.el p List.mem_cons_self
    obtain ⟨q, hq, _⟩ := (h p.1 v1 v4 (O.lt_le v3 v5 v1 v2 vhi)).mp ⟨p, List.mem_cons_self, .inl rfl, v3⟩
    cases hq
  | p :: R, q :: S, hR, hS, h => by
    obtain ⟨v1, v2, v3, v4, v5⟩ := hR.el p List.mem_cons_self
    obtain ⟨w1, w2, w3, w4, w5⟩ := hS.el q List.mem_cons_self
    have fst : ∀ {R S : List (α × α)} {p q : α × α}, Pcs V lt lo hi (p :: R) → Pcs V lt lo hi (q :: S) → (∀ c, V c → leO lt lo c → lt c hi → (cov lt (p :: R) c ↔ cov lt (q :: S) c)) → ¬ lt p.1 q.1 := by
      intro R S p q hR hS h k
      obtain ⟨v1, v2, v3, v4, v5⟩ := hR.el p List.mem_cons_self
      obtain ⟨w1, w2, w3, w4, w5⟩ := hS.el q List.mem_cons_self
      obtain ⟨z, hz, h1, h2⟩ := (h p.1 v1 v4 (O.lt_le v3 v5 v1 v2 vhi)).mp ⟨p, List.mem_cons_self, .inl rfl, v3⟩
      have hqz : leO lt q.1 z.1 := by
        rcases List.mem_cons.mp hz with rfl | hz
        · exact .inl rfl
        · have z1 := (hS.el z (List.mem_cons_of_mem _ hz)).1
          exact .inr (O.tr _ _ _ w3 ((List.pairwise_cons.mp hS.pw).1 z hz) w1 w2 z1)
      have z1 := (hS.el z hz).1
      exact O.asym k (O.le_le hqz h1 w1 z1 v1) v1 w1
    have e1 : p.1 = q.1 := by
      rcases O.tot p.1 q.1 v1 w1 with k | k | k
      · exact absurd k (fst hR hS h)
      · exact k
      · exact absurd k (fst hS hR fun c a b d => (h c a b d).symm)
    have snd : ∀ {R S : List (α × α)} {p q : α × α}, Pcs V lt lo hi (p :: R) → Pcs V lt lo hi (q :: S) → p.1 = q.1 → (∀ c, V c → leO lt lo c → lt c hi → (cov lt (p :: R) c ↔ cov lt (q :: S) c)) → ¬ lt p.2 q.2 := by
      intro R S p q hR hS e h k
      obtain ⟨v1, v2, v3, v4, v5⟩ := hR.el p List.mem_cons_self
      obtain ⟨w1, w2, w3, w4, w5⟩ := hS.el q List.mem_cons_self
      have hlo : leO lt lo p.2 := O.le_le v4 (.inr v3) vlo v1 v2
      obtain ⟨z, hz, h1, h2⟩ := (h p.2 v2 hlo (O.lt_le k w5 v2 w2 vhi)).mpr ⟨q, List.mem_cons_self, .inr (e ▸ v3), k⟩
      rcases List.mem_cons.mp hz with rfl | hz
      · exact O.irr _ h2
      · exact hR.apart O v2 (.inl rfl) ⟨z, hz, h1, h2⟩
    have e2 : p.2 = q.2 := by
      rcases O.tot p.2 q.2 v2 w2 with k | k | k
      · exact absurd k (snd hR hS e1 h)
      · exact k
      · exact absurd k (snd hS hR e1.symm fun c a b d => (h c a b d).symm)
    have e : p = q := Prod.ext e1 e2
    subst e
    rw [Pcs.uniq O vlo vhi hR.tail hS.tail fun c vc c1 c2 => ?_]
    by_cases k : lt c p.2
    · exact ⟨fun z => absurd z (hR.apart O vc (.inr k)), fun z => absurd z (hS.apart O vc (.inr k))⟩
    · have split : ∀ T : List (α × α), cov lt (p :: T) c ↔ cov lt T c := fun T => by
        constructor
        · rintro ⟨z, hz, h1, h2⟩
          rcases List.mem_cons.mp hz with rfl | hz
          · exact absurd h2 k
          · exact ⟨z, hz, h1, h2⟩
        · rintro ⟨z, hz, h1, h2⟩
          exact ⟨z, List.mem_cons_of_mem _ hz, h1, h2⟩
      have := h c vc c1 c2
      rw [split, split] at this
      exact this
end
/-! # rates and cuts -/
abbrev Rt := Int × Int
/-- a rate in lowest terms -/
def VR (p : Rt) : Prop := 0 < p.1 ∧ 0 < p.2 ∧ g0 p.1 p.2 = 1
def ltR (p q : Rt) : Prop := p.1 * q.2 < q.1 * p.2
theorem ltR_irr (p : Rt) : ¬ ltR p p := Int.lt_irrefl _
theorem mul_can {a b c : Int} (h : 0 < a) (k : a * b < a * c) : b < c := Int.lt_of_mul_lt_mul_left k (Int.le_of_lt h)
theorem ltR_tr {p q r : Rt} (hp : 0 < p.2) (hq : 0 < q.2) (hr : 0 < r.2) (h : ltR p q) (k : ltR q r) : ltR p r := by
  unfold ltR at *
  refine mul_can hq ?_
  have h1 := Int.mul_lt_mul_of_pos_right h hr
  have h2 := Int.mul_lt_mul_of_pos_right k hp
  have e1 : q.2 * (p.1 * r.2) = p.1 * q.2 * r.2 := by grind
  have e2 : q.1 * p.2 * r.2 = q.1 * r.2 * p.2 := by grind
  have e3 : r.1 * q.2 * p.2 = q.2 * (r.1 * p.2) := by grind
  omega
theorem cop_dvd {a b d : Int} (h : Int.gcd a b = 1) (k : b ∣ a * d) : b ∣ d := by
  have k' := Int.natAbs_dvd_natAbs.mpr k
  rw [Int.natAbs_mul] at k'
  have c : Nat.Coprime b.natAbs a.natAbs := by
    have : Int.gcd a b = Nat.gcd a.natAbs b.natAbs := rfl
    rw [this, Nat.gcd_comm] at h
    exact h
  exact Int.natAbs_dvd_natAbs.mp (c.dvd_of_dvd_mul_left k')
theorem low_uniq {p q : Rt} (hp : VR p) (hq : VR q) (h : p.1 * q.2 = q.1 * p.2) : p = q := by
  obtain ⟨a, b⟩ := p
  obtain ⟨c, d⟩ := q
  obtain ⟨h1, h2, h3⟩ := hp
  obtain ⟨h4, h5, h6⟩ := hq
  dsimp only at *
  have d1 : b ∣ d := by
    have : b ∣ a * d := ⟨c, by rw [h, Int.mul_comm]⟩
    exact cop_dvd (by unfold g0 at h3; omega) this
  have d2 : d ∣ b := by
    have : d ∣ c * b := ⟨a, by rw [← h, Int.mul_comm]⟩
    exact cop_dvd (by unfold g0 at h6; omega) this
  have e : b = d := Int.le_antisymm (Int.le_of_dvd h5 d1) (Int.le_of_dvd h2 d2)
  subst e
  have : a = c := Int.eq_of_mul_eq_mul_right (by omega) h
  rw [this]
abbrev Cut := Rt × Bool
/-- true: just ahead of the rate; false: just behind it -/
def ltC (x y : Cut) : Prop := ltR x.1 y.1 ∨ (x.1 = y.1 ∧ x.2 = true ∧ y.2 = false)
def VC (x : Cut) : Prop := VR x.1
theorem ltR_tot {p q : Rt} (hp : VR p) (hq : VR q) : ltR p q ∨ p = q ∨ ltR q p := by
  unfold ltR
  rcases Int.lt_trichotomy (p.1 * q.2) (q.1 * p.2) with h | h | h
  · exact .inl h
  · exact .inr (.inl (low_uniq hp hq h))
  · exact .inr (.inr h)
theorem cutO : LinO VC ltC where
  irr := by
    rintro x (h | ⟨_, h1, h2⟩)
    · exact ltR_irr _ h
    · rw [h1] at h2; cases h2
  tr := by
    rintro x y z h k vx vy vz
    rcases h with h | ⟨e, h1, h2⟩
    · rcases k with k | ⟨e', k1, k2⟩
      · exact .inl (ltR_tr vx.2.1 vy.2.1 vz.2.1 h k)
      · exact .inl (e' ▸ h)
    · rcases k with k | ⟨e', k1, k2⟩
      · exact .inl (e ▸ k)
      · rw [h2] at k1; cases k1
  tot := by
    rintro ⟨p, f⟩ ⟨q, g⟩ vx vy
    rcases ltR_tot vx vy with h | h | h
    · exact .inl (.inl h)
    · have h : p = q := h
      subst h
      cases f <;> cases g
      · exact .inr (.inl rfl)
      · exact .inr (.inr (.inr ⟨rfl, rfl, rfl⟩))
      · exact .inl (.inr ⟨rfl, rfl, rfl⟩)
      · exact .inr (.inl rfl)
    · exact .inr (.inr (.inl h))

/-! # windows: even multiples of a rate that stand in them fold bands, or make two look alike -/
structure Wn where
  lo : Int
  hi : Int
  str : Bool
/-- twice n times the rate stands in the window, at the cut -/
def inW (w : Wn) (c : Cut) (n : Int) : Prop :=
  if c.2 = true then (if w.str = true then w.lo * c.1.2 < 2 * n * c.1.1 ∧ 2 * n * c.1.1 < w.hi * c.1.2 else w.lo * c.1.2 ≤ 2 * n * c.1.1 ∧ 2 * n * c.1.1 ≤ w.hi * c.1.2)
  else w.lo * c.1.2 ≤ 2 * n * c.1.1 ∧ 2 * n * c.1.1 < w.hi * c.1.2
/-- clear at the cut -/
def clrC (ws : List Wn) (c : Cut) : Prop := ∀ w ∈ ws, ∀ n : Int, 1 ≤ n → ¬ inW w c n
/-- no rate of c at p or below r but above p -/
def noCh (k : Int) (p r : Rt) : Prop := ∀ n : Int, 1 ≤ n → ¬ (2 * n * p.1 < k * p.2 ∧ k * r.2 ≤ 2 * n * r.1)
def noChW (ws : List Wn) (p r : Rt) : Prop := ∀ w ∈ ws, noCh w.lo p r ∧ noCh w.hi p r
theorem up_mul {p r : Rt} (h : ltR p r) {n : Int} (hn : 1 ≤ n) : 2 * n * p.1 * r.2 < 2 * n * r.1 * p.2 := by
  unfold ltR at h
  have := Int.mul_lt_mul_of_pos_left h (show 0 < 2 * n by omega)
  have e1 : 2 * n * (p.1 * r.2) = 2 * n * p.1 * r.2 := by grind
  have e2 : 2 * n * (r.1 * p.2) = 2 * n * r.1 * p.2 := by grind
  omega
theorem sc_lt {x y k : Int} (h : 0 < k) : x < y ↔ x * k < y * k := ⟨fun z => Int.mul_lt_mul_of_pos_right z h, fun z => Int.lt_of_mul_lt_mul_right z (Int.le_of_lt h)⟩
theorem sc_le {x y k : Int} (h : 0 < k) : x ≤ y ↔ x * k ≤ y * k := ⟨fun z => Int.mul_le_mul_of_nonneg_right z (Int.le_of_lt h), fun z => Int.le_of_mul_le_mul_right z h⟩
/-- between two rates without a change, all is as just behind the first one -/
theorem inW_const {w : Wn} {p r : Rt} (hp : 0 < p.2) (hr : 0 < r.2) (h : ltR p r) (n1 : noCh w.lo p r) (n2 : noCh w.hi p r) {n : Int} (hn : 1 ≤ n) (f : Bool) : inW w (r, f) n ↔ inW w (p, false) n := by
  have up := up_mul h hn
  have a1 := n1 n hn
  have a2 := n2 n hn
  have key : ∀ k : Int, (k * r.2 * p.2 = k * (r.2 * p.2)) ∧ (k * p.2 * r.2 = k * (r.2 * p.2)) := fun k => ⟨by grind, by grind⟩
  obtain ⟨b1, b2⟩ := key w.lo
  obtain ⟨b3, b4⟩ := key w.hi
  rw [sc_lt hr, sc_le hp, b1, b2] at a1
  rw [sc_lt hr, sc_le hp, b3, b4] at a2
  unfold inW
  dsimp only
  generalize w.lo * (r.2 * p.2) = L at *
  generalize w.hi * (r.2 * p.2) = H at *
  rw [if_neg Bool.false_ne_true, sc_le (x := w.lo * p.2) hr, sc_lt (y := w.hi * p.2) hr, b2, b4]
  cases f with
  | false =>
    rw [if_neg Bool.false_ne_true, sc_le (x := w.lo * r.2) hp, sc_lt (y := w.hi * r.2) hp, b1, b3]
    omega
  | true =>
    rw [if_pos rfl]
    by_cases c : w.str = true
    · rw [if_pos c, sc_lt (x := w.lo * r.2) hp, sc_lt (y := w.hi * r.2) hp, b1, b3]
      omega
    · rw [if_neg c, sc_le (x := w.lo * r.2) hp, sc_le (y := w.hi * r.2) hp, b1, b3]
      omega
theorem clr_const {ws : List Wn} {p r : Rt} (hp : 0 < p.2) (hr : 0 < r.2) (h : ltR p r) (n : noChW ws p r) (f : Bool) : clrC ws (r, f) ↔ clrC ws (p, false) := by
  unfold clrC
  exact ⟨fun z w hw k hk y => z w hw k hk ((inW_const hp hr h (n w hw).1 (n w hw).2 hk f).mpr y), fun z w hw k hk y => z w hw k hk ((inW_const hp hr h (n w hw).1 (n w hw).2 hk f).mp y)⟩
theorem noCh_le {k : Int} {p q r : Rt} (hr : 0 < r.2) (hq : 0 < q.2) (h : q.1 * r.2 ≤ r.1 * q.2) (n : noCh k p r) : noCh k p q := by
  rintro i hi ⟨h1, h2⟩
  refine n i hi ⟨h1, ?_⟩
  rw [sc_le hq]
  rw [sc_le hr] at h2
  have := Int.mul_le_mul_of_nonneg_left h (show 0 ≤ 2 * i by omega)
  have e1 : 2 * i * (q.1 * r.2) = 2 * i * q.1 * r.2 := by grind
  have e2 : 2 * i * (r.1 * q.2) = 2 * i * r.1 * q.2 := by grind
  have e3 : k * q.2 * r.2 = k * r.2 * q.2 := by grind
  omega
/-! # the windows of bands -/
def pairW (p q : Int × Int) : List Wn := [⟨p.1 + q.1, p.2 + q.2, false⟩, ⟨q.1 - p.2, q.2 - p.1, false⟩]
def wins : Bs → List Wn
  | [] => []
  | p :: r => ⟨2 * p.1, 2 * p.2, true⟩ :: (r.flatMap (pairW p) ++ wins r)
theorem fold_win {l h a b : Int} (ha : 0 < a) (hb : 0 < b) (hl : 0 ≤ l) : (foldV l h a b).isSome = false ↔ ∀ n : Int, 1 ≤ n → ¬ inW ⟨2 * l, 2 * h, true⟩ ((a, b), true) n := by
  have e0 : (foldV l h a b).isSome = decide ((l * b / a + 1) * a < h * b) := by
    unfold foldV
    by_cases c : (l * b / a + 1) * a < h * b
    · rw [if_pos c, decide_eq_true c]; rfl
    · rw [if_neg c, decide_eq_false c]; rfl
  rw [e0, decide_eq_false_iff_not]
  have e1 := Int.mul_ediv_add_emod (l * b) a
  have e2 := Int.emod_nonneg (l * b) (show a ≠ 0 by omega)
  have e3 := Int.emod_lt_of_pos (l * b) ha
  have e4 : 0 ≤ l * b := Int.mul_nonneg hl (by omega)
  have e5 : 0 ≤ l * b / a := Int.ediv_nonneg e4 (by omega)
  have e6 : (l * b / a + 1) * a = a * (l * b / a) + a := by grind
  constructor
  · intro h1 n hn h2
    unfold inW at h2
    rw [if_pos rfl, if_pos rfl] at h2
    dsimp only at h2
    have h3 : l * b < n * a := by have : 2 * l * b = 2 * (l * b) := by grind
                                  have : 2 * n * a = 2 * (n * a) := by grind
                                  omega
    have h4 : n * a < h * b := by have : 2 * h * b = 2 * (h * b) := by grind
                                  have : 2 * n * a = 2 * (n * a) := by grind
                                  omega
    apply h1
    have h5 : l * b / a + 1 ≤ n := by
      rcases Int.lt_or_le (l * b / a) n with z | z
      · omega
      · have := Int.mul_le_mul_of_nonneg_left z (show 0 ≤ a by omega)
        have : n * a = a * n := Int.mul_comm ..
        omega
    have := Int.mul_le_mul_of_nonneg_right h5 (show 0 ≤ a by omega)
    omega
  · intro h1 h2
    refine h1 (l * b / a + 1) (by omega) ?_
    unfold inW
    rw [if_pos rfl, if_pos rfl]
    dsimp only
    constructor
    · have : 2 * l * b = 2 * (l * b) := by grind
      have : 2 * (l * b / a + 1) * a = 2 * ((l * b / a + 1) * a) := by grind
      omega
    · have : 2 * h * b = 2 * (h * b) := by grind
      have : 2 * (l * b / a + 1) * a = 2 * ((l * b / a + 1) * a) := by grind
      omega
theorem even_win {lo hi a b : Int} (ha : 0 < a) (hb : 0 < b) (hl : 1 ≤ lo) : evenB lo hi a b = false ↔ ∀ n : Int, 1 ≤ n → ¬ inW ⟨lo, hi, false⟩ ((a, b), true) n := by
  unfold evenB
  rw [decide_eq_false_iff_not]
  have e1 := Int.mul_ediv_add_emod (lo * b - 1) (2 * a)
  have e2 := Int.emod_nonneg (lo * b - 1) (show 2 * a ≠ 0 by omega)
  have e3 := Int.emod_lt_of_pos (lo * b - 1) (show 0 < 2 * a by omega)
  have e4 : 0 < lo * b := Int.mul_pos (by omega) hb
  have e5 : 0 ≤ (lo * b - 1) / (2 * a) := Int.ediv_nonneg (by omega) (by omega)
  have e6 : ((lo * b - 1) / (2 * a) + 1) * (2 * a) = 2 * a * ((lo * b - 1) / (2 * a)) + 2 * a := by grind
  have e7 : ∀ n : Int, 2 * n * a = 2 * a * n := fun n => by grind
  constructor
  · intro h1 n hn h2
    unfold inW at h2
    rw [if_pos rfl, if_neg (by simp)] at h2
    dsimp only at h2
    rw [e7] at h2
    apply h1
    have h5 : (lo * b - 1) / (2 * a) + 1 ≤ n := by
      rcases Int.lt_or_le ((lo * b - 1) / (2 * a)) n with z | z
      · omega
      · have := Int.mul_le_mul_of_nonneg_left z (show 0 ≤ 2 * a by omega)
        omega
    have := Int.mul_le_mul_of_nonneg_left h5 (show 0 ≤ 2 * a by omega)
    rw [Int.mul_add, Int.mul_one] at this
    omega
  · intro h1 h2
    refine h1 ((lo * b - 1) / (2 * a) + 1) (by omega) ?_
    unfold inW
    rw [if_pos rfl, if_neg (by simp)]
    dsimp only
    rw [e7, Int.mul_add, Int.mul_one]
    omega
theorem clr_cons {w : Wn} {ws : List Wn} {c : Cut} : clrC (w :: ws) c ↔ (∀ n : Int, 1 ≤ n → ¬ inW w c n) ∧ clrC ws c := by
  unfold clrC
  constructor
  · intro h
    exact ⟨h w List.mem_cons_self, fun v hv => h v (List.mem_cons_of_mem _ hv)⟩
  · rintro ⟨h1, h2⟩ v hv
    rcases List.mem_cons.mp hv with rfl | hv
    · exact h1
    · exact h2 v hv
theorem clr_app {ws vs : List Wn} {c : Cut} : clrC (ws ++ vs) c ↔ clrC ws c ∧ clrC vs c := by
  unfold clrC
  constructor
  · intro h
    exact ⟨fun v hv => h v (List.mem_append_left _ hv), fun v hv => h v (List.mem_append_right _ hv)⟩
  · rintro ⟨h1, h2⟩ v hv
    rcases List.mem_append.mp hv with hv | hv
    · exact h1 v hv
    · exact h2 v hv
theorem clr_nil {c : Cut} : clrC [] c := fun _ h => nomatch h
theorem inner_win {a b : Int} (ha : 0 < a) (hb : 0 < b) {p : Int × Int} (hp : BdOk p) : ∀ r : Bs, (∀ x ∈ r, BdOk x ∧ p.2 < x.1) → (innerB a b p r = true ↔ clrC (r.flatMap (pairW p)) ((a, b), true))
  | [], _ => ⟨fun _ => clr_nil, fun _ => rfl⟩
  | x :: r, h => by
    obtain ⟨hx, hlt⟩ := h x List.mem_cons_self
    have ih := inner_win ha hb hp r fun y hy => h y (List.mem_cons_of_mem _ hy)
    have b1 := hp.1
    have b2 := hp.2.1
    have b3 := hx.1
    have b4 := hx.2.1
    rw [List.flatMap_cons]
    show (_ = true) ↔ clrC (⟨p.1 + x.1, p.2 + x.2, false⟩ :: ⟨x.1 - p.2, x.2 - p.1, false⟩ :: r.flatMap (pairW p)) _
    rw [clr_cons, clr_cons, ← ih, ← even_win ha hb (by omega), ← even_win ha hb (by omega)]
    have e : innerB a b p (x :: r) = (!evenB (p.1 + x.1) (p.2 + x.2) a b && (!evenB (x.1 - p.2) (x.2 - p.1) a b && innerB a b p r)) := rfl
    rw [e]
    simp only [Bool.and_eq_true, Bool.not_eq_true']
theorem clear_win {a b : Int} (ha : 0 < a) (hb : 0 < b) : ∀ r : Bs, BsOk r → (clearB a b r = true ↔ clrC (wins r) ((a, b), true))
  | [], _ => ⟨fun _ => clr_nil, fun _ => rfl⟩
  | p :: r, h => by
    obtain ⟨hp, hr, hlt⟩ := h.cons
    have ih := clear_win ha hb r hr
    have hi := inner_win ha hb hp r fun x hx => ⟨hr.1 x hx, hlt x hx⟩
    unfold wins clearB
    rw [clr_cons, clr_app, ← ih, ← hi, ← fold_win ha hb hp.1]
    simp only [Bool.and_eq_true, Bool.not_eq_true']
theorem wins_el : ∀ {bs : Bs}, BsOk bs → ∀ w ∈ wins bs, 0 ≤ w.lo ∧ w.lo < w.hi ∧ w.hi ≤ 2000
  | [], _, w, hw => nomatch hw
  | p :: r, h, w, hw => by
    obtain ⟨hp, hr, hlt⟩ := h.cons
    obtain ⟨p1, p2, p3⟩ := hp
    unfold wins at hw
    rcases List.mem_cons.mp hw with rfl | hw
    · dsimp only; omega
    · rcases List.mem_append.mp hw with hw | hw
      · obtain ⟨x, hx, hw⟩ := List.mem_flatMap.mp hw
        obtain ⟨x1, x2, x3⟩ := hr.1 x hx
        have := hlt x hx
        unfold pairW at hw
        simp only [List.mem_cons, List.not_mem_nil, or_false] at hw
        rcases hw with rfl | rfl
        · dsimp only; omega
        · dsimp only; omega
      · exact wins_el hr w hw
end Px

set_option Elab.async false
set_option linter.all false
set_option maxRecDepth 100000
namespace Px
open PySem PySem.Spec PyProof.Rows L2
/-! # the next change -/
def timesV (c a b : Int) : Int := (c * b - 1) / (2 * a)
theorem times_iff {c a b n : Int} (ha : 0 < a) : n ≤ timesV c a b ↔ 2 * n * a < c * b := by
  unfold timesV
  rw [Int.le_ediv_iff_mul_le (by omega)]
  have : n * (2 * a) = 2 * n * a := by grind
  omega
def lowR (x y : Int) : Rt := (x / g0 x y, y / g0 x y)
theorem lowR_spec {x y : Int} (hx : 0 < x) (hy : 0 < y) : VR (lowR x y) ∧ x * (lowR x y).2 = (lowR x y).1 * y ∧ (lowR x y).1 ≤ x ∧ (lowR x y).2 ≤ y ∧ spd x y = prD (lowR x y) := by
  obtain ⟨u, v, e, u0, ux, v0, vy, hs⟩ := spd_rate (t := x) (by omega) hy
  have e' : D.tup [.int (x / g0 x y), .int (y / g0 x y)] = .tup [.int u, .int v] := e
  injection e' with e'
  injection e' with e1 e2
  injection e2 with e2 _
  injection e1 with e1
  injection e2 with e2
  have el : lowR x y = (u, v) := by unfold lowR; rw [e1, e2]
  obtain ⟨s0, s1, s2⟩ := spd_low hs
  rw [el]
  refine ⟨⟨u0, v0, ?_⟩, ?_, ux, vy, e⟩
  · have hs' : (decide (0 ≤ u) && (decide (1 ≤ v) && decide (g0 u v = 1))) = true := hs
    rw [Bool.and_eq_true, Bool.and_eq_true, decide_eq_true_eq, decide_eq_true_eq, decide_eq_true_eq] at hs'
    exact hs'.2.2
  · have d1 := Int.ediv_mul_cancel (g0_dvd_l x y)
    have d2 := Int.ediv_mul_cancel (g0_dvd_r x y)
    rw [e1] at d1
    rw [e2] at d2
    show x * v = u * y
    rw [← d1]
    conv => { rhs; rw [← d2] }
    grind
/-- one constant looked at -/
def nextS (a b : Int) (f : Option Rt) (c : Int) : Option Rt :=
  if 0 < timesV c a b then (match f with
    | none => some (lowR c (2 * timesV c a b))
    | some q => if c * q.2 < q.1 * (2 * timesV c a b) then some (lowR c (2 * timesV c a b)) else some q)
  else f
def nextV (cs : List Int) (a b : Int) : Option Rt := cs.foldl (nextS a b) none
/-- what the next change above p is -/
structure IsNext (cs : List Int) (p : Rt) (f : Option Rt) : Prop where
  no : f = none → ∀ c ∈ cs, ∀ n : Int, 1 ≤ n → ¬ 2 * n * p.1 < c * p.2
  so : ∀ q, f = some q → VR q ∧ ltR p q ∧ q.1 ≤ 2000 ∧ q.2 ≤ 2000 ∧ (∃ c ∈ cs, ∃ n : Int, 1 ≤ n ∧ c * q.2 = 2 * n * q.1 ∧ n = timesV c p.1 p.2) ∧ ∀ c ∈ cs, ∀ n : Int, 1 ≤ n → 2 * n * p.1 < c * p.2 → q.1 * (2 * n) ≤ c * q.2
def CsOk (cs : List Int) : Prop := ∀ c ∈ cs, (1 : Int) ≤ c ∧ c ≤ 2000
theorem next_step {cs : List Int} {p : Rt} {f : Option Rt} {c : Int} (hp : VR p) (hge : p.2 ≤ p.1) (hc : 1 ≤ c ∧ c ≤ 2000) (h : IsNext cs p f) :
    (timesV c p.1 p.2 ≤ 0 → IsNext (cs ++ [c]) p f) ∧ (0 < timesV c p.1 p.2 → f = none → IsNext (cs ++ [c]) p (some (lowR c (2 * timesV c p.1 p.2)))) ∧
    ∀ q, f = some q → 0 < timesV c p.1 p.2 → (c * q.2 < q.1 * (2 * timesV c p.1 p.2) → IsNext (cs ++ [c]) p (some (lowR c (2 * timesV c p.1 p.2)))) ∧ (¬ c * q.2 < q.1 * (2 * timesV c p.1 p.2) → IsNext (cs ++ [c]) p f) := by
  have ti := fun n => times_iff (c := c) (b := p.2) (n := n) hp.1
  have noT : timesV c p.1 p.2 ≤ 0 → ∀ n : Int, 1 ≤ n → ¬ 2 * n * p.1 < c * p.2 := fun h n hn z => by
    have := (ti n).mpr z; omega
  have mem : ∀ {P : Int → Prop}, (∀ x ∈ cs, P x) → P c → ∀ x ∈ cs ++ [c], P x := fun h1 h2 x hx => by
    rcases List.mem_append.mp hx with hx | hx
    · exact h1 x hx
    · rw [List.mem_singleton.mp hx]; exact h2
  -- the new one
  have new : 0 < timesV c p.1 p.2 → (∀ d ∈ cs, ∀ n : Int, 1 ≤ n → 2 * n * p.1 < d * p.2 → c * (2 * n) ≤ d * (2 * timesV c p.1 p.2)) → IsNext (cs ++ [c]) p (some (lowR c (2 * timesV c p.1 p.2))) := by
    intro ht hd
    obtain ⟨v, e, u1, u2, _⟩ := lowR_spec (x := c) (y := 2 * timesV c p.1 p.2) (by omega) (by omega)
    have tt := (ti (timesV c p.1 p.2)).mp (Int.le_refl _)
    generalize hT : timesV c p.1 p.2 = T at *
    generalize lowR c (2 * T) = q at *
    have hT2 : 2 * T ≤ c := by
      have h1 := Int.mul_le_mul_of_nonneg_left hge (show 0 ≤ c by omega)
      have h2 : 2 * T * p.1 < c * p.1 := by omega
      exact Int.le_of_lt (Int.lt_of_mul_lt_mul_right h2 (Int.le_of_lt hp.1))
    refine ⟨fun z => (nomatch z), fun q' e' => ?_⟩
    cases e'
    refine ⟨v, ?_, by omega, by omega, ⟨c, by simp, T, by omega, by rw [e]; grind, by rw [hT]⟩, ?_⟩
    · unfold ltR
      refine mul_can (show 0 < 2 * T by omega) ?_
      have h1 := Int.mul_lt_mul_of_pos_right tt v.2.1
      have e1 : 2 * T * (p.1 * q.2) = 2 * T * p.1 * q.2 := by grind
      have e2 : c * p.2 * q.2 = c * q.2 * p.2 := by grind
      have e3 : q.1 * (2 * T) * p.2 = 2 * T * (q.1 * p.2) := by grind
      rw [e2, e] at h1
      omega
    · have gen : ∀ d n : Int, c * (2 * n) ≤ d * (2 * T) → q.1 * (2 * n) ≤ d * q.2 := by
        intro d n h1
        rw [sc_le (k := 2 * T) (by omega)]
        have h2 := Int.mul_le_mul_of_nonneg_right h1 (Int.le_of_lt v.2.1)
        have e1 : q.1 * (2 * n) * (2 * T) = q.1 * (2 * T) * (2 * n) := by grind
        have e2 : c * q.2 * (2 * n) = c * (2 * n) * q.2 := by grind
        have e3 : d * (2 * T) * q.2 = d * q.2 * (2 * T) := by grind
        rw [e1, ← e]
        omega
      refine mem (fun d hd' n hn h1 => gen d n (hd d hd' n hn h1)) fun n hn h1 => gen c n ?_
      have := (ti n).mpr h1
      have := Int.mul_le_mul_of_nonneg_left (show 2 * n ≤ 2 * T by omega) (show 0 ≤ c by omega)
      omega
  refine ⟨fun ht => ⟨fun e => mem (h.no e) (noT ht), fun q e => ?_⟩, fun ht hf => new ht fun d hd n hn z => absurd z (h.no hf d hd n hn), fun q e ht => ⟨fun hlt => new ht fun d hd n hn z => ?_, fun hge2 => ⟨fun z => by rw [e] at z; exact (nomatch z), fun q' e' => ?_⟩⟩⟩
  · obtain ⟨a1, a2, a3, a4, ⟨d, hd, n, b1, b2, b3⟩, a5⟩ := h.so q e
    exact ⟨a1, a2, a3, a4, ⟨d, List.mem_append_left _ hd, n, b1, b2, b3⟩, mem a5 fun n hn z => absurd z (noT ht n hn)⟩
  · obtain ⟨a1, a2, a3, a4, _, a5⟩ := h.so q e
    have h1 := a5 d hd n hn z
    -- c / 2T < q ≤ d / 2n
    rw [sc_le (k := q.2) a1.2.1]
    have h2 := Int.mul_le_mul_of_nonneg_right h1 (show 0 ≤ 2 * timesV c p.1 p.2 by omega)
    have h3 := Int.mul_le_mul_of_nonneg_right (Int.le_of_lt hlt) (show 0 ≤ 2 * n by omega)
    have e1 : c * (2 * n) * q.2 = c * q.2 * (2 * n) := by grind
    have e2 : q.1 * (2 * timesV c p.1 p.2) * (2 * n) = q.1 * (2 * n) * (2 * timesV c p.1 p.2) := by grind
    have e3 : d * q.2 * (2 * timesV c p.1 p.2) = d * (2 * timesV c p.1 p.2) * q.2 := by grind
    omega
  · rw [e] at e'
    cases e'
    obtain ⟨a1, a2, a3, a4, ⟨d, hd, n, b1, b2, b3⟩, a5⟩ := h.so q e
    refine ⟨a1, a2, a3, a4, ⟨d, List.mem_append_left _ hd, n, b1, b2, b3⟩, mem a5 fun n hn z => ?_⟩
    have := (ti n).mpr z
    have := Int.mul_le_mul_of_nonneg_left (show 2 * n ≤ 2 * timesV c p.1 p.2 by omega) (Int.le_of_lt a1.1)
    omega
theorem foldl_next {p : Rt} (hp : VR p) (hge : p.2 ≤ p.1) : ∀ (cs pre : List Int) (f : Option Rt), CsOk cs → IsNext pre p f → IsNext (pre ++ cs) p (cs.foldl (nextS p.1 p.2) f)
  | [], pre, f, _, h => by rw [List.append_nil]; exact h
  | c :: r, pre, f, hc, h => by
    have hc1 := hc c List.mem_cons_self
    obtain ⟨s1, s2, s3⟩ := next_step hp hge hc1 h
    have h1 : IsNext (pre ++ [c]) p (nextS p.1 p.2 f c) := by
      unfold nextS
      by_cases ht : 0 < timesV c p.1 p.2
      · rw [if_pos ht]
        cases f with
        | none => exact s2 ht rfl
        | some q =>
          dsimp only
          by_cases hl : c * q.2 < q.1 * (2 * timesV c p.1 p.2)
          · rw [if_pos hl]; exact (s3 q rfl ht).1 hl
          · rw [if_neg hl]; exact (s3 q rfl ht).2 hl
      · rw [if_neg ht]; exact s1 (by omega)
    have := foldl_next hp hge r (pre ++ [c]) _ (fun x hx => hc x (List.mem_cons_of_mem _ hx)) h1
    rw [List.append_assoc] at this
    exact this
theorem nextV_is {cs : List Int} {p : Rt} (hp : VR p) (hge : p.2 ≤ p.1) (hc : CsOk cs) : IsNext cs p (nextV cs p.1 p.2) :=
  foldl_next hp hge cs [] none hc ⟨fun _ _ h => (nomatch h), fun _ h => (nomatch h)⟩
/-- the constants of windows -/
def ConsOf (ws : List Wn) (cs : List Int) : Prop := ∀ k : Int, k ∈ cs ↔ 0 < k ∧ ∃ w ∈ ws, k = w.lo ∨ k = w.hi
theorem next_noCh {ws : List Wn} {cs : List Int} (hw : ∀ w ∈ ws, 0 ≤ w.lo ∧ 0 ≤ w.hi) (hC : ConsOf ws cs) {p r : Rt} (hp : VR p) (hr : VR r) {f : Option Rt} (h : IsNext cs p f) (k : ∀ q, f = some q → ltR r q) : noChW ws p r := by
  have key : ∀ c, 0 ≤ c → (0 < c → c ∈ cs) → noCh c p r := by
    rintro c c0 hm n hn ⟨h1, h2⟩
    have cpos : 0 < c := by
      rcases Int.lt_or_le 0 c with z | z
      · exact z
      · have : c = 0 := by omega
        subst this
        have := Int.mul_pos (show 0 < 2 * n by omega) hp.1
        omega
    cases f with
    | none => exact h.no rfl c (hm cpos) n hn h1
    | some q =>
      obtain ⟨a1, _, _, _, _, a5⟩ := h.so q rfl
      have h3 := a5 c (hm cpos) n hn h1
      have h4 := k q rfl
      unfold ltR at h4
      -- q ≤ c / 2n ≤ r < q
      have m1 := Int.mul_le_mul_of_nonneg_right h3 (Int.le_of_lt hr.2.1)
      have m2 := Int.mul_le_mul_of_nonneg_right h2 (Int.le_of_lt a1.2.1)
      have m3 := Int.mul_lt_mul_of_pos_left h4 (show 0 < 2 * n by omega)
      have e1 : q.1 * (2 * n) * r.2 = 2 * n * (q.1 * r.2) := by grind
      have e2 : c * q.2 * r.2 = c * r.2 * q.2 := by grind
      have e3 : 2 * n * r.1 * q.2 = 2 * n * (r.1 * q.2) := by grind
      omega
  intro w hwm
  obtain ⟨l0, h0⟩ := hw w hwm
  exact ⟨key _ l0 fun z => (hC _).mpr ⟨z, w, hwm, .inl rfl⟩, key _ h0 fun z => (hC _).mpr ⟨z, w, hwm, .inr rfl⟩⟩
/-- how many changes stand above a rate -/
def muV (cs : List Int) (p : Rt) : Nat := (cs.map fun c => (timesV c p.1 p.2).toNat).sum
theorem mu_less {cs : List Int} {p q : Rt} (hp : VR p) (h : IsNext cs p (some q)) : muV cs q < muV cs p := by
  obtain ⟨a1, a2, a3, a4, ⟨d, hd, n, b1, b2, b3⟩, a5⟩ := h.so q rfl
  have le : ∀ c ∈ cs, timesV c q.1 q.2 ≤ timesV c p.1 p.2 ∨ timesV c q.1 q.2 ≤ 0 := by
    intro c hc
    by_cases h0 : timesV c q.1 q.2 ≤ 0
    · exact .inr h0
    · left
      rw [times_iff hp.1]
      have := (times_iff (c := c) (b := q.2) (n := timesV c q.1 q.2) a1.1).mp (Int.le_refl _)
      generalize timesV c q.1 q.2 = T at *
      have up := up_mul a2 (n := T) (by omega)
      rw [sc_lt a1.2.1]
      have h2 := Int.mul_lt_mul_of_pos_right this hp.2.1
      have e1 : c * p.2 * q.2 = c * q.2 * p.2 := by grind
      omega
  have lt : timesV d q.1 q.2 < n := by
    rcases Int.lt_or_le (timesV d q.1 q.2) n with z | z
    · exact z
    · have := (times_iff (c := d) (b := q.2) (n := n) a1.1).mp z
      omega
  unfold muV
  have gen : ∀ l : List Int, (∀ c ∈ l, c ∈ cs) → (l.map fun c => (timesV c q.1 q.2).toNat).sum ≤ (l.map fun c => (timesV c p.1 p.2).toNat).sum := by
    intro l
    induction l with
    | nil => intro _; exact Nat.le_refl _
    | cons c r ih =>
      intro hm
      have := ih fun x hx => hm x (List.mem_cons_of_mem _ hx)
      have := le c (hm c List.mem_cons_self)
      simp only [List.map_cons, List.sum_cons]
      omega
  obtain ⟨l1, l2, e⟩ := List.append_of_mem hd
  have g1 := gen l1 fun x hx => by rw [e]; exact List.mem_append_left _ hx
  have g2 := gen l2 fun x hx => by rw [e]; exact List.mem_append_right _ (List.mem_cons_of_mem _ hx)
  rw [e]
  simp only [List.map_append, List.map_cons, List.sum_append, List.sum_cons]
  rw [← b3]
  omega
end Px

set_option Elab.async false
set_option linter.all false
set_option maxRecDepth 100000
namespace Px
open PySem PySem.Spec PyProof.Rows L2
/-! # pieces found one by one -/
section
variable {α : Type} {V : α → Prop} {lt : α → α → Prop}
/-- what is decided ahead of x: pieces found, and one begun -/
structure PSt (V : α → Prop) (lt : α → α → Prop) (Pe : α → Prop) (cl : α → Prop) (lo x : α) (R : List (α × α)) (b : Option α) : Prop where
  pw : R.Pairwise fun p q => lt p.2 q.1
  el : ∀ p ∈ R, V p.1 ∧ V p.2 ∧ lt p.1 p.2 ∧ leO lt lo p.1 ∧ lt p.2 x ∧ Pe p.1 ∧ Pe p.2
  bg : ∀ c, b = some c → V c ∧ leO lt lo c ∧ lt c x ∧ Pe c ∧ ∀ p ∈ R, lt p.2 c
  dec : ∀ d, V d → leO lt lo d → lt d x → (cl d ↔ cov lt R d ∨ ∃ c, b = some c ∧ leO lt c d)
theorem cov_app {R S : List (α × α)} {d : α} : cov lt (R ++ S) d ↔ cov lt R d ∨ cov lt S d := by
  unfold cov
  constructor
  · rintro ⟨p, hp, h⟩
    rcases List.mem_append.mp hp with hp | hp
    · exact .inl ⟨p, hp, h⟩
    · exact .inr ⟨p, hp, h⟩
  · rintro (⟨p, hp, h⟩ | ⟨p, hp, h⟩)
    · exact ⟨p, List.mem_append_left _ hp, h⟩
    · exact ⟨p, List.mem_append_right _ hp, h⟩
theorem cov_one {p : α × α} {d : α} : cov lt [p] d ↔ leO lt p.1 d ∧ lt d p.2 := by
  unfold cov
  constructor
  · rintro ⟨q, hq, h⟩
    rw [List.mem_singleton.mp hq] at h
    exact h
  · exact fun h => ⟨p, List.mem_singleton.mpr rfl, h⟩
theorem PSt.start (O : LinO V lt) {Pe cl : α → Prop} {lo : α} (hl : V lo) : PSt V lt Pe cl lo lo [] none where
  pw := List.Pairwise.nil
  el := fun p hp => by cases hp
  bg := fun c e => by cases e
  dec := fun d hd h k => (O.asym k h hd hl).elim
/-- between x and y all is as at x -/
def CstO (V : α → Prop) (lt : α → α → Prop) (cl : α → Prop) (x y : α) : Prop := ∀ d, V d → leO lt x d → lt d y → (cl d ↔ cl x)
variable {Pe cl : α → Prop} {lo x y : α} {R : List (α × α)} {b : Option α}
theorem PSt.up (O : LinO V lt) (hl : V lo) (hx : V x) (hy : V y) (hlx : leO lt lo x) (h : PSt V lt Pe cl lo x R b) (hxy : lt x y) (hPe : Pe x) (R' : List (α × α)) (b' : Option α)
    (h' : R' = R ∧ b' = b ∨ (b = none ∧ R' = R ∧ b' = some x) ∨ ∃ c, b = some c ∧ R' = R ++ [(c, x)] ∧ b' = none)
    (hd : ∀ d, V d → leO lt x d → lt d y → (cl d ↔ ∃ c, b' = some c)) : PSt V lt Pe cl lo y R' b' := by
  have low : ∀ {p : α}, V p → lt p x → lt p y := fun hp k => O.tr _ _ _ k hxy hp hx hy
  have split : ∀ d, V d → lt d y → lt d x ∨ leO lt x d := fun d hv k => by
    rcases O.tot d x hv hx with z | z | z
    · exact .inl z
    · exact .inr (.inl z.symm)
    · exact .inr (.inr z)
  have nc : ∀ d, V d → leO lt x d → ¬ cov lt R d := fun d hv k ⟨p, hp, k1, k2⟩ => by
    obtain ⟨v1, v2, _, _, v5, _⟩ := h.el p hp
    exact O.asym (O.tr _ _ _ k2 v5 hv v2 hx) k hv hx
  rcases h' with ⟨rfl, rfl⟩ | ⟨rfl, rfl, rfl⟩ | ⟨c, rfl, rfl, rfl⟩
  · refine ⟨h.pw, fun p hp => ?_, fun c e => ?_, fun d hv k1 k2 => ?_⟩
    · obtain ⟨v1, v2, v3, v4, v5, v6⟩ := h.el p hp
      exact ⟨v1, v2, v3, v4, low v2 v5, v6⟩
    · obtain ⟨v1, v2, v3, v4⟩ := h.bg c e
      exact ⟨v1, v2, low v1 v3, v4⟩
    · rcases split d hv k2 with z | z
      · exact h.dec d hv k1 z
      · rw [hd d hv z k2]
        constructor
        · rintro ⟨c, e⟩
          obtain ⟨v1, v2, v3, v4⟩ := h.bg c e
          exact .inr ⟨c, e, .inr (O.lt_le v3 z v1 hx hv)⟩
        · rintro (k | ⟨c, e, _⟩)
          · exact absurd k (nc d hv z)
          · exact ⟨c, e⟩
  · refine ⟨h.pw, fun p hp => ?_, fun c e => ?_, fun d hv k1 k2 => ?_⟩
    · obtain ⟨v1, v2, v3, v4, v5, v6⟩ := h.el p hp
      exact ⟨v1, v2, v3, v4, low v2 v5, v6⟩
    · cases e
      exact ⟨hx, hlx, hxy, hPe, fun p hp => (h.el p hp).2.2.2.2.1⟩
    · rcases split d hv k2 with z | z
      · rw [h.dec d hv k1 z]
        constructor
        · rintro (k | ⟨c, e, _⟩)
          · exact .inl k
          · cases e
        · rintro (k | ⟨c, e, k⟩)
          · exact .inl k
          · cases e
            exact (O.asym z k hv hx).elim
      · rw [hd d hv z k2]
        exact ⟨fun _ => .inr ⟨x, rfl, z⟩, fun _ => ⟨x, rfl⟩⟩
  · obtain ⟨v1, v2, v3, v4, v5⟩ := h.bg c rfl
    refine ⟨?_, fun p hp => ?_, fun c e => ?_, fun d hv k1 k2 => ?_⟩
    · refine List.pairwise_append.mpr ⟨h.pw, List.pairwise_singleton _ _, fun p hp q hq => ?_⟩
      rw [List.mem_singleton.mp hq]
      exact v5 p hp
    · rcases List.mem_append.mp hp with hp | hp
      · obtain ⟨v1, v2, v3, v4, v5, v6⟩ := h.el p hp
        exact ⟨v1, v2, v3, v4, low v2 v5, v6⟩
      · rw [List.mem_singleton.mp hp]
        exact ⟨v1, hx, v3, v2, hxy, v4, hPe⟩
    · cases e
    · rw [cov_app, cov_one]
      rcases split d hv k2 with z | z
      · rw [h.dec d hv k1 z]
        constructor
        · rintro (k | ⟨c', e, k⟩)
          · exact .inl (.inl k)
          · cases e
            exact .inl (.inr ⟨k, z⟩)
        · rintro ((k | k) | ⟨c', e, k⟩)
          · exact .inl k
          · exact .inr ⟨c, rfl, k.1⟩
          · cases e
      · rw [hd d hv z k2]
        constructor
        · rintro ⟨c', e⟩; cases e
        · rintro ((k | k) | ⟨c', e, k⟩)
          · exact absurd k (nc d hv z)
          · exact (O.asym k.2 z hv hx).elim
          · cases e
/-- what is covered by all pieces, once the last one is ended -/
def endP (R : List (α × α)) (b : Option α) (hi : α) : List (α × α) := match b with
  | none => R
  | some c => R ++ [(c, hi)]
structure ClrP (V : α → Prop) (lt : α → α → Prop) (Pe cl : α → Prop) (lo hi : α) (R : List (α × α)) : Prop where
  pcs : Pcs V lt lo hi R
  pe : ∀ p ∈ R, Pe p.1 ∧ Pe p.2
  iff : ∀ d, V d → leO lt lo d → lt d hi → (cov lt R d ↔ cl d)
theorem PSt.done {hi : α} (hhi : V hi) (hPe : Pe hi) (h : PSt V lt Pe cl lo hi R b) : ClrP V lt Pe cl lo hi (endP R b hi) := by
  cases b with
  | none =>
    refine ⟨⟨h.pw, fun p hp => ?_⟩, fun p hp => (h.el p hp).2.2.2.2.2, fun d hv k1 k2 => ?_⟩
    · obtain ⟨v1, v2, v3, v4, v5, _⟩ := h.el p hp
      exact ⟨v1, v2, v3, v4, .inr v5⟩
    · rw [h.dec d hv k1 k2]
      exact ⟨.inl, fun z => z.elim id fun ⟨c, e, _⟩ => by cases e⟩
  | some c =>
    obtain ⟨v1, v2, v3, v4, v5⟩ := h.bg c rfl
    refine ⟨⟨?_, fun p hp => ?_⟩, fun p hp => ?_, fun d hv k1 k2 => ?_⟩
    · refine List.pairwise_append.mpr ⟨h.pw, List.pairwise_singleton _ _, fun p hp q hq => ?_⟩
      rw [List.mem_singleton.mp hq]
      exact v5 p hp
    · rcases List.mem_append.mp hp with hp | hp
      · obtain ⟨v1, v2, v3, v4, v5, _⟩ := h.el p hp
        exact ⟨v1, v2, v3, v4, .inr v5⟩
      · rw [List.mem_singleton.mp hp]
        exact ⟨v1, hhi, v3, v2, .inl rfl⟩
    · rcases List.mem_append.mp hp with hp | hp
      · exact (h.el p hp).2.2.2.2.2
      · rw [List.mem_singleton.mp hp]
        exact ⟨v4, hPe⟩
    · show cov lt (R ++ [(c, hi)]) d ↔ _
      rw [cov_app, cov_one, h.dec d hv k1 k2]
      constructor
      · rintro (k | k)
        · exact .inl k
        · exact .inr ⟨c, rfl, k.1⟩
      · rintro (k | ⟨c', e, k⟩)
        · exact .inl k
        · cases e
          exact .inr ⟨k, k2⟩
theorem ClrP.uniq (O : LinO V lt) {hi : α} {R' : List (α × α)} {Pe' : α → Prop} (hl : V lo) (hh : V hi) (h : ClrP V lt Pe cl lo hi R) (h' : ClrP V lt Pe' cl lo hi R') : R = R' :=
  Pcs.uniq O hl hh h.pcs h'.pcs fun c hv k1 k2 => (h.iff c hv k1 k2).trans (h'.iff c hv k1 k2).symm
/-- the first clear place begins the first piece -/
theorem ClrP.head (O : LinO V lt) {hi : α} {p : α × α} (hl : V lo) (hh : V hi) (h : ClrP V lt Pe cl lo hi (p :: R)) : cl p.1 ∧ ∀ d, V d → leO lt lo d → lt d p.1 → ¬ cl d := by
  obtain ⟨v1, v2, v3, v4, v5⟩ := h.pcs.el p List.mem_cons_self
  have vh : lt p.1 hi := O.lt_le v3 v5 v1 v2 hh
  refine ⟨(h.iff p.1 v1 v4 vh).mp ⟨p, List.mem_cons_self, .inl rfl, v3⟩, fun d hv k1 k2 k3 => ?_⟩
  obtain ⟨q, hq, z1, z2⟩ := (h.iff d hv k1 (O.tr _ _ _ k2 vh hv v1 hh)).mpr k3
  rcases List.mem_cons.mp hq with rfl | hq
  · exact O.asym k2 z1 hv v1
  · have z3 := (List.pairwise_cons.mp h.pcs.pw).1 q hq
    have w := (h.pcs.el q (List.mem_cons_of_mem _ hq)).1
    have z4 : lt p.1 d := O.tr _ _ _ v3 (O.lt_le z3 z1 v2 w hv) v1 v2 hv
    exact O.irr _ (O.tr _ _ _ z4 k2 v1 hv v1)
end
/-! # bands: cuts and their pieces -/
def szR (p : Rt) : Prop := p.1 ≤ 10 ^ 25 ∧ p.2 ≤ 10 ^ 25
def szC (c : Cut) : Prop := szR c.1
abbrev IsClr (bs : Bs) (l h : Rt) (R : List (Cut × Cut)) : Prop := ClrP VC ltC szC (clrC (wins bs)) (l, true) (h, false) R
def pieceD (p : Cut × Cut) : D := .tup [prD p.1.1, .bl p.1.2, prD p.2.1, .bl (!p.2.2)]
theorem ltC_fst {x y : Cut} (h : ltR x.1 y.1) : ltC x y := .inl h
theorem ltC_at {p : Rt} : ltC (p, true) (p, false) := .inr ⟨rfl, rfl, rfl⟩
/-- only p itself stands between just ahead of p and just behind it -/
theorem cst_at {cl : Cut → Prop} {p : Rt} {d : Cut} (hp : VR p) (hd : VC d) (h : leO ltC (p, true) d) (k : ltC d (p, false)) : d = (p, true) := by
  rcases h with h | h
  · exact h.symm
  · rcases h with h | ⟨e, _, h2⟩
    · rcases k with k | ⟨e, _, _⟩
      · exact (ltR_irr p (ltR_tr hp.2.1 hd.2.1 hp.2.1 h k)).elim
      · rw [e] at h; exact (ltR_irr _ h).elim
    · rcases k with k | ⟨_, h3, _⟩
      · rw [← e] at k; exact (ltR_irr _ k).elim
      · rw [h3] at h2; cases h2
/-- behind p nothing changes up to y -/
theorem cst_behind {bs : Bs} {cs : List Int} (hb : BsOk bs) (hC : ConsOf (wins bs) cs) {p : Rt} (hp : VR p) {f : Option Rt} (hf : IsNext cs p f) {y : Cut} (hy : VC y) (k : ∀ q, f = some q → ltR y.1 q ∨ y = (q, true)) {d : Cut} (hd : VC d) (h1 : leO ltC (p, false) d) (h2 : ltC d y) : clrC (wins bs) d ↔ clrC (wins bs) (p, false) := by
  rcases h1 with h1 | h1
  · rw [← h1]
  · have lt : ltR p d.1 := by
      rcases h1 with h | ⟨_, h, _⟩
      · exact h
      · cases h
    refine clr_const hp.2.1 hd.2.1 lt (next_noCh (fun w hw => ?_) hC hp hd hf fun q e => ?_) d.2
    · have := wins_el hb w hw; omega
    · have vq := (hf.so q e).1
      rcases k q e with z | z
      · rcases h2 with h2 | ⟨e2, _, _⟩
        · exact ltR_tr hd.2.1 hy.2.1 vq.2.1 h2 z
        · rw [e2]; exact z
      · rw [z] at h2
        rcases h2 with h2 | ⟨_, _, h2⟩
        · exact h2
        · cases h2
end Px

set_option Elab.async false
set_option linter.all false
set_option maxRecDepth 100000
namespace Px
open PySem PySem.Spec PyProof.Rows L2
/-! # sets of ints made by a comprehension -/
abbrev setAt (w : World) (D : Addr) (S : Int → Bool) (n : Nat) (H : Hp) : Hp := upd H D (SetO w D S n)
/-- an int goes to the set at D -/
def ScAdd (w : World) (D : Addr) (go : Hp → Prop) : VK := fun y H => ∃ (k : Int) (S : Int → Bool) (n : Nat), y = .int k ∧ H D = some (SetO w D S n) ∧ n + 1 < scanBound ∧ go (setAt w D (fun j => S j || decide (j = k)) (if S k = true then n else n + 1) H)
def ScTurn (w : World) (J : It) (D : Addr) (Q : Hp → Prop) (g : TG) (tt : TT) (te : TE) (vs : List Nat) (σ : L2.St) (W : Nat → Nat → Hp → Prop) : Prop := ∀ i m H, W i m H →
  (J.stop i H ∧ Q H) ∨ (J.go i H ∧ ∀ x H', J.yld i H x H' → g x (wipe σ vs) H' fun σ2 H2 => wipe σ2 vs = wipe σ vs ∧
    tt σ2 H2 fun b H3 => if b = true then te σ2 H3 (ScAdd w D fun H4 => ∃ m', m' < m ∧ W (i + 1) m' H4) else ∃ m', m' < m ∧ W (i + 1) m' H3)
def tScI (w : World) (wi : TI) (g : TG) (tt : TT) (te : TE) (vs : List Nat) : TE := fun σ H Q => wi σ H fun J H1 => ∀ D, H1 D = none →
  ∃ W : Nat → Nat → Hp → Prop, (∃ m, W 0 m (setAt w D (fun _ => false) 0 H1)) ∧ ScTurn w J D (fun H2 => Q (.ref D) H2) g tt te vs σ W
section
variable {B : Cx} {tg elt iter : Expr} {ifs : List Expr} {scope : Scope} {pos : Pos} {g : TG} {tt : TT} {te : TE} {vs : List Nat} {σ : L2.St} {J : It} {D it : Addr} {fp : List Addr} {tn : Nat → Heap → Prop} {Q : Hp → Prop} {W : Nat → Nat → Hp → Prop}
theorem fp_still (he : B.ex = fp) (hp : B.pn = []) {σ' : L2.St} {H' : Hp} {s' : Shared} (I : Inv B [] σ' H' s') (n : ∀ b ∈ fp, H' b = none) : ∀ b ∈ fp, FpOk B [] H' b := by
  subst he
  intro b hb
  refine ⟨n b hb, (I.ok.exf b hb).1, I.ok.exfs b hb, .inl hb, fun x c e => (I.ok.exf b hb).2 x c e, fun p h => ?_⟩
  rw [hp] at h
  cases h
/-- the loop over the items, in the block's own context -/
theorem scI_loop (hx : B.xe = fun _ _ => False) (hc : B.calm = true) (he : B.ex = fp) (hp : B.pn = []) (T : Turn B.prog B.w B.K tg J fp it tn) (pg : PG B tg g) (pt : PTs B ifs tt) (pe : PE B elt te)
    (turn : ScTurn B.w J D Q g tt te vs σ W) {R : Result → Shared → Prop} (hR : ∀ H' s', Inv B [] (wipe σ vs) H' s' → Q H' → R (.ok .next) s') (m : Nat) (s0 : Shared) (H0 : Hp) (I0 : Inv B [] (wipe σ vs) H0 s0) (t0 : tn 0 s0.heap) (f0 : ∀ b ∈ fp, H0 b = none) (w0 : W 0 m H0) :
    codeAny (model B.prog B.w) B.A (.compLoop (.SetComp elt [⟨tg, iter, ifs, 0⟩] scope pos) 0 (.ref it) (.ref D) B.env) R s0 := by
  have none_raise : ∀ {α : Type} {t : Sem α} {P P' : α → Shared → Prop} {E : Value → Shared → Prop} {s : Shared}, wpAny (model B.prog B.w) B.A t P B.xe s → (∀ a s, P a s → P' a s) → wpAny (model B.prog B.w) B.A t P' E s := fun h k => by
    rw [hx] at h
    exact thnF h k
  refine PpSet.compLoopS_any (fun k s => ∃ i H, Inv B [] (wipe σ vs) H s ∧ tn i s.heap ∧ (∀ b ∈ fp, H b = none) ∧ W i k H) ?_ m ⟨0, H0, I0, t0, f0, w0⟩
  rintro k s ⟨i, H, I, ti, fi, wi⟩
  have still := fp_still he hp I fi
  rcases turn i k H wi with ⟨hs, q⟩ | ⟨hg, step⟩
  · refine thnF (T.done B rfl rfl rfl hc i [] s _ H (fun _ _ => False) I still ti hs) fun r s1 h => ?_
    rw [h.1]
    exact hR H s1 h.2 q
  · refine thnF (T.item B rfl rfl rfl hc i [] s _ H (fun _ _ => False) I still ti hg) fun r s1 h1 => ?_
    obtain ⟨u, er, h1⟩ := h1
    rw [er]
    refine thnF h1 fun _ s2 h2 => ?_
    obtain ⟨x, H2, I2, rx, yx, t2, f2⟩ := h2
    have J2 := I2.pinned (fp_still he hp I2 f2) (T.obj _ _ t2)
    have close : ∀ {σ3 : L2.St} {H3 : Hp} {s3 : Shared}, wipe σ3 vs = wipe σ vs → Inv B ([] ++ pinsAt fp s2.heap) σ3 H3 s3 → (∃ m', m' < k ∧ W (i + 1) m' H3) → ∃ m', m' < k ∧ ∃ i H, Inv B [] (wipe σ vs) H s3 ∧ tn i s3.heap ∧ (∀ b ∈ fp, H b = none) ∧ W i m' H := by
      rintro σ3 H3 s3 ew I3 ⟨m', lt, w3⟩
      have held : ∀ b ∈ fp, ∀ o, s2.heap.get? b = some o → s3.heap.get? b = some o ∧ H3 b = none := fun b hb o e =>
        have z := I3.pin (b, o) (List.mem_append_right _ (List.mem_append_right _ (mem_pinsAt hb e)))
        ⟨z.1, z.2.1⟩
      refine ⟨m', lt, i + 1, H3, I3.unpinned.weak (by rw [← ew, wipe_length]) fun j v e => ?_, T.keep _ _ _ t2 fun b hb o e => (held b hb o e).1, fun b hb => ?_, w3⟩
      · rw [← ew] at e
        exact (wipe_some e).1
      · obtain ⟨o, e, _⟩ := T.obj _ _ t2 b hb
        exact (held b hb o e).2
    refine none_raise (pg.run _ s2 _ H2 x u _ J2 rx (step x H2 yx)) fun _ s3 h3 => ?_
    obtain ⟨σ3, H3, I3, ew, q3⟩ := h3
    refine none_raise (pt.run _ s3 σ3 H3 _ I3 q3) fun b s4 h4 => ?_
    obtain ⟨H4, I4, q4⟩ := h4
    cases b with
    | false => exact close ew I4 q4
    | true =>
      refine none_raise (pe.run _ s4 σ3 H4 _ I4 q4) fun z s5 h5 => ?_
      obtain ⟨y, H5, I5, ry, a, S, n, ey, h6, hn, go⟩ := h5
      refine none_raise (mt_sadd _ s5 σ3 H5 (.ref D) [y] (.ref D) [z] (fun _ H6 => ∃ m', m' < k ∧ W (i + 1) m' H6) I5 rfl (.cons ry .nil) ⟨D, a, S, n, rfl, by rw [ey], h6, hn, go⟩) fun _ s6 h7 => ?_
      obtain ⟨_, H6, I6, _, q6⟩ := h7
      exact close ew I6 q6
end
section
variable {X : Cx}
theorem pe_scI {elt tg iter : Expr} {ifs : List Expr} {scope : Scope} {own : List (PySem.Str × Nat)} {pos : Pos} {wi : TI} {g : TG} {tt : TT} {te : TE} (hc : X.calm = true) (hN : X.N.Nodup) (hi : PI X tg iter wi) (ok : BlkOk X.N X.env.scope scope own)
    (hg : ∀ (s : Shared) (H : Hp) (C : Addr) (cs : List (PySem.Str × Addr)) (fp : List Addr), PG (X.blk s H scope (compEnvC scope cs C X.env) fp) tg g)
    (ht : ∀ (s : Shared) (H : Hp) (C : Addr) (cs : List (PySem.Str × Addr)) (fp : List Addr), PTs (X.blk s H scope (compEnvC scope cs C X.env) fp) ifs tt)
    (he : ∀ (s : Shared) (H : Hp) (C : Addr) (cs : List (PySem.Str × Addr)) (fp : List Addr), PE (X.blk s H scope (compEnvC scope cs C X.env) fp) elt te) (hs : ∀ x, foldedSetIterable iter X.env x = pure x := by intro _; rfl) :
    PE X (.SetComp elt [⟨tg, iter, ifs, 0⟩] scope pos) (tScI X.w wi g tt te (own.map (·.2))) := by
  refine ⟨fun pins s σ H Q I h => ?_⟩
  rw [PpSet.eval_SetComp]
  have cells : ∀ y ∈ scope.names, y.2 = .free → ∃ c, X.env.cells.lookup y.1 = some c := fun y hy e => I.ok.has _ ((ok.free y hy e).elim .inl .inr)
  refine wpAny_comprehension_free (use := none) rfl hs (closure_ok cells) ok.kind (fun y hy e => (ok.uniq y hy).trans (congrArg some e)) ?_
  refine thn (hi.run pins s σ H _ I h) fun xv s1 h1 => thn h1 fun itv s2 h2 => ?_
  obtain ⟨it, fp, tn, J, H2, rfl, I2, T, t2, f2, q⟩ := h2
  refine PpSet.newSet_ok (newEnv_comp ?_)
  have hD : H2 s2.heap.objs.size = none := I2.hok.fresh (Nat.le_refl _)
  obtain ⟨W, ⟨m, w0⟩, turn⟩ := q _ hD
  generalize hs3 : (⟨s2.heap.push _, s2.gens, s2.drawn, s2.toks, s2.os⟩ : Shared) = s3
  generalize eD : s2.heap.objs.size = D at hD w0 turn ⊢
  generalize hset : setAt X.w D (fun _ => false) 0 H2 = H3 at w0
  have I3 : Inv X pins σ H3 s3 := by
    rw [← hs3, ← hset, ← eD]
    exact I2.laid (fun b o e => Heap.get?_push_of_some _ e) (Nat.le_refl _) (setO_new (setR_fresh X.w))
  have up : ∀ b o, s2.heap.get? b = some o → s3.heap.get? b = some o := fun b o e => by rw [← hs3]; exact Heap.get?_push_of_some _ e
  have f3 : ∀ b ∈ fp, FpOk X pins H3 b ∧ b < s3.heap.objs.size := fun b hb => by
    obtain ⟨o, e, _⟩ := T.obj _ _ t2 b hb
    have lt := Heap.lt_size e
    refine ⟨⟨?_, (f2 b hb).2⟩, Heap.lt_size (up b o e)⟩
    rw [← hset, ← eD]
    exact (upd_ne (Nat.ne_of_lt lt)).trans (f2 b hb).1
  have I4 := block_start I3 ok hN f3
  have pg := hg s3 H3 s3.heap.objs.size (cellsFrom (s3.heap.objs.size + 1) scope.names (cloFrom X.env.cells scope.names [])) fp
  have pt := ht s3 H3 s3.heap.objs.size (cellsFrom (s3.heap.objs.size + 1) scope.names (cloFrom X.env.cells scope.names [])) fp
  have pe := he s3 H3 s3.heap.objs.size (cellsFrom (s3.heap.objs.size + 1) scope.names (cloFrom X.env.cells scope.names [])) fp
  generalize hk : s3.heap.objs.size = k at I4 pg pt pe ⊢
  show codeAny _ _ (.compStart (.SetComp elt [⟨tg, iter, ifs, 0⟩] scope pos) 0 (.ref it) (.ref D) (compEnvC scope (cellsFrom (k + 1) scope.names (cloFrom X.env.cells scope.names [])) k X.env)) (compPost (model X.prog X.w) X.A X.xe none (EP X pins σ Q) (.ref D) k) _
  have nD : ∀ b ∈ fp, H3 b = none := fun b hb => (f3 b hb).1.1
  generalize hce : compEnvC scope (cellsFrom (k + 1) scope.names (cloFrom X.env.cells scope.names [])) k X.env = ce at I4 pg pt pe ⊢
  have cL : ce.locals = k := by rw [← hce]; rfl
  generalize hs4 : (⟨pushCells (s3.heap.push _) _, s3.gens, s3.drawn, s3.toks, s3.os⟩ : Shared) = s4 at I4 ⊢
  have t4 : tn 0 s4.heap := T.keep _ _ _ t2 fun b _ o e => by
    rw [← hs4]
    exact pushCells_keeps _ _ _ _ (Heap.get?_push_of_some _ (up b o e))
  have loop := scI_loop (B := X.blk s3 H3 scope ce fp) (scope := scope) (iter := iter) (pos := pos) (D := D) (R := compPost (model X.prog X.w) X.A X.xe none (EP X pins σ Q) (.ref D) k) rfl hc rfl rfl T pg pt pe turn (fun H' s' I' qq => by
    have back : Inv X pins σ H' s' := I3.call' (ch := fp) I'.os I'.base I'.hok I'.bare fun b hb =>
      have z := (f3 b hb).1.2
      ⟨z.2.2.1, z.1, z.2.2.2.1, z.2.2.2.2⟩
    have nk : H' k = none := by rw [← cL]; exact I'.free
    obtain ⟨m', hn, _⟩ := I'.loc
    have hn : s'.heap.Ns ce.locals m' := hn
    rw [cL] at hn
    obtain ⟨z0, z1, z2, z3, z4, z5⟩ := I3.fpOk (Nat.le_of_eq hk) nk
    exact ⟨m', hn, fun h2 sb => ⟨.ref D, H', back.turned (t' := s'.toks) (fun b o ne e => (sb.2 b ne).trans e) z0 z1 z3 z4 z5, rfl, qq⟩⟩) m s4 H3 I4 t4 nD w0
  exact PpSet.codeAny_compStart_set loop (T.self X.A 0 _ _ _ t4 loop)
end
end Px

set_option Elab.async false
set_option linter.all false
set_option maxRecDepth 100000
namespace Px
open PySem PySem.Spec PyProof.Rows L2
/-! # an object that the data do not tell of: it stays -/
/-- as if the def were entered here -/
def Gh.here (g : Gh) (H F : Hp) (O : Own) : Gh where
  H0 := fun a => match O a with
    | none => H a
    | some (.obj _) => H a
    | some _ => none
  F0 := F
  own0 := fun a => ∃ m, O a = some (.obj m)
  tmp := g.tmp
section
variable {K : PySem.W.Frag} {g : Gh} {σ σ' : L2.St} {H H' F F' : Hp} {ρ ρ' : Rho} {M M' : Mm} {O O' : Own} {D : Addr} {o : HO}
theorem here_none (A : Ab K g σ H ρ M F O) {a : Addr} (e : (g.here H F O).H0 a = none) : g.H0 a = none := by
  unfold Gh.here at e
  dsimp only at e
  cases h : g.H0 a with
  | none => rfl
  | some u =>
    obtain ⟨u', hu⟩ := A.thr a u h
    cases ho : O a with
    | none => rw [ho, hu] at e; cases e
    | some w => cases w with
      | obj m => rw [ho, hu] at e; cases e
      | slot i => rw [A.slo a _ ho fun m z => by cases z] at h; cases h
      | tmp => rw [A.slo a _ ho fun m z => by cases z] at h; cases h
theorem here_some (A : Ab K g σ H ρ M F O) {a : Addr} {u : HO} (e : g.H0 a = some u) (n : ¬ g.own0 a) : (g.here H F O).H0 a = some u ∧ ¬ (g.here H F O).own0 a := by
  have h := A.frm a u e n
  have hO : O a = none := by
    cases ho : O a with
    | none => rfl
    | some w => rcases (A.liv a w ho).2.2 with z | z
                · exact absurd z n
                · rw [e] at z; cases z
  unfold Gh.here
  dsimp only
  rw [hO]
  exact ⟨h, fun ⟨m, z⟩ => by cases z⟩
theorem Ab.here (A : Ab K g σ H ρ M F O) : Ab K (g.here H F O) σ H ρ M F O :=
  { sub := A.sub, ext0 := Same.refl F, new := fun a u e => .inl e
    frm := fun a u e n => by
      unfold Gh.here at e
      dsimp only at e
      cases ho : O a with
      | none => rw [ho] at e; exact e
      | some w => cases w with
        | obj m => rw [ho] at e; exact e
        | slot i => rw [ho] at e; cases e
        | tmp => rw [ho] at e; cases e
    thr := fun a u e => by
      unfold Gh.here at e
      dsimp only at e
      cases ho : O a with
      | none => rw [ho] at e; exact ⟨u, e⟩
      | some w => cases w with
        | obj m => rw [ho] at e; exact ⟨u, e⟩
        | slot i => rw [ho] at e; cases e
        | tmp => rw [ho] at e; cases e
    liv := fun a w e => ⟨(A.liv a w e).1, (A.liv a w e).2.1, by
      unfold Gh.here
      dsimp only
      rw [e]
      cases w with
      | obj m => exact .inl ⟨m, rfl⟩
      | slot i => exact .inr rfl
      | tmp => exact .inr rfl⟩
    slo := fun a w e n => by
      unfold Gh.here
      dsimp only
      rw [e]
      cases w with
      | obj m => exact absurd rfl (n m)
      | slot i => rfl
      | tmp => rfl
    tm := A.tm, mu := A.mu, len := A.len, sl := A.sl }
theorem Ab.there (A : Ab K g σ H ρ M F O) (A' : Ab K (g.here H F O) σ' H' ρ' M' F' O') : Ab K g σ' H' ρ' M' F' O' :=
  { sub := A'.sub, ext0 := A.ext0.trans A'.ext0
    new := fun a u e => by
      rcases A'.new a u e with h | h
      · exact A.new a u h
      · exact .inr (here_none A h)
    frm := fun a u e n => let z := here_some A e n; A'.frm a u z.1 z.2
    thr := fun a u e => by
      cases h : (g.here H F O).H0 a with
      | some u' => exact A'.thr a u' h
      | none => rw [here_none A h] at e; cases e
    liv := fun a w e => ⟨(A'.liv a w e).1, (A'.liv a w e).2.1, by
      rcases (A'.liv a w e).2.2 with ⟨m, h⟩ | h
      · exact (A.liv a _ h).2.2
      · exact .inr (here_none A h)⟩
    slo := fun a w e n => here_none A (A'.slo a w e n)
    tm := A'.tm, mu := A'.mu, len := A'.len, sl := A'.sl }
/-- nobody's object stays as it is -/
theorem kept_at (A : Ab K g σ H ρ M F O) (hD : H D = some o) (hF : F D = none) (hO : O D = none) (A' : Ab K (g.here H F O) σ' H' ρ' M' F' O') : H' D = some o ∧ F' D = none ∧ O' D = none := by
  have h0 : (g.here H F O).H0 D = some o := by unfold Gh.here; dsimp only; rw [hO]; exact hD
  have n0 : ¬ (g.here H F O).own0 D := fun ⟨m, z⟩ => by rw [hO] at z; cases z
  refine ⟨A'.frm D o h0 n0, ?_, ?_⟩
  · cases h : F' D with
    | none => rfl
    | some u => rcases A'.new D u h with z | z
                · have z : F D = some u := z
                  rw [hF] at z; cases z
                · rw [h0] at z; cases z
  · cases h : O' D with
    | none => rfl
    | some w => rcases (A'.liv D w h).2.2 with z | z
                · exact absurd z n0
                · rw [h0] at z; cases z
/-- nobody's object may turn -/
theorem Ab.other (A : Ab K g σ H ρ M F O) (hF : F D = none) (hO : O D = none) (h0 : g.H0 D = none) : Ab K g σ (upd H D o) ρ M F O := by
  have ne : ∀ b w, O b = some w → b ≠ D := fun b w e z => by rw [z, hO] at e; cases e
  have ne0 : ∀ b u, g.H0 b = some u → b ≠ D := fun b u e z => by rw [z, h0] at e; cases e
  exact { sub := fun b u e => (upd_ne fun z => by rw [z, hF] at e; cases e).trans (A.sub b u e), ext0 := A.ext0, new := A.new
          frm := fun b u e n => (upd_ne (ne0 b u e)).trans (A.frm b u e n)
          thr := fun b u e => by
            obtain ⟨u', z⟩ := A.thr b u e
            exact ⟨u', (upd_ne (ne0 b u e)).trans z⟩
          liv := fun b w e => by
            obtain ⟨⟨u, z⟩, r⟩ := A.liv b w e
            exact ⟨⟨u, (upd_ne (ne b w e)).trans z⟩, r⟩
          slo := A.slo
          tm := fun p l e => by
            obtain ⟨xs, e1, e2, e3⟩ := A.tm p l e
            exact ⟨xs, (upd_ne (ne p _ e3)).trans e1, e2, e3⟩
          mu := fun b mo e => (A.mu b mo e).mono (Same.refl F) fun q u e1 e2 => ⟨(upd_ne (ne q _ e2)).trans e1, e2⟩
          len := A.len
          sl := fun j sv e => by
            obtain ⟨v, e1, r⟩ := A.sl j sv e
            exact ⟨v, e1, r.mono (Same.refl F) fun q xs e1 e2 => ⟨(upd_ne (ne q _ e2)).trans e1, e2⟩⟩ }
end
/-! # sorted({.. for .. in ..}) of ints -/
def compI (gd : PTG) (tt : PTT) (te : PTE) (ρ : Rho) : List D → List Int → Mm → (List Int → Mm → Prop) → Prop
  | [], acc, M, q => q acc M
  | x :: r, acc, M, q => gd x ρ fun ρ' => tt w0 ρ' M fun b M1 => if b = true then te w0 ρ' M1 fun y M2 => ∃ k : Int, y = .int k ∧ compI gd tt te ρ r (acc ++ [k]) M2 q else compI gd tt te ρ r acc M1 q
def dSortSet (vs : List Nat) (pl : PTA) (gd : PTG) (tt : PTT) (te : PTE) : PTA := fun w ρ M q => okW ρ vs = true ∧ pl w ρ M fun ds M1 => ds.length < 64 ∧ compI gd tt te (uns ρ vs) ds [] M1 fun ns M2 =>
  ∀ ms : List Int, ms.Pairwise (· < ·) → (∀ k, k ∈ ms ↔ k ∈ ns) → ms.length < 64 → q (ms.map .int) M2
theorem compI_at {gd : PTG} {tt : PTT} {te : PTE} {ρ : Rho} {ds : List D} {acc : List Int} {M : Mm} {q : List Int → Mm → Prop} {i : Nat} {d : D} (h : ds[i]? = some d) (k : compI gd tt te ρ (ds.drop i) acc M q) :
    gd d ρ fun ρ' => tt w0 ρ' M fun b M1 => if b = true then te w0 ρ' M1 fun y M2 => ∃ k : Int, y = .int k ∧ compI gd tt te ρ (ds.drop (i + 1)) (acc ++ [k]) M2 q else compI gd tt te ρ (ds.drop (i + 1)) acc M1 q := by
  obtain ⟨hi, e⟩ := List.getElem?_eq_some_iff.mp h
  rw [List.drop_eq_getElem_cons hi, e] at k
  exact k
theorem memS_app {acc : List Int} {k : Int} : (fun j : Int => decide (j ∈ acc) || decide (j = k)) = fun j => decide (j ∈ acc ++ [k]) := by
  funext j
  rw [← Bool.decide_or]
  exact decide_eq_decide.mpr (by simp)
section
variable {X : Cx} {W : WX} {elt tg iter : Expr} {ifs : List Expr} {scope : Scope} {own : List (Str × Nat)} {pos p pos2 : Pos} {pl : PTA} {gd : PTG} {tt : PTT} {te : PTE} {is vs : List Nat}
theorem scI_run {K : PySem.W.Frag} {w : World} (hsub : ∀ j ∈ is, j ∈ vs) {σ : L2.St} {H : Hp} {Q : VK} (h : realL K W (dSortSet vs pl gd tt te) σ H Q) :
    tScI w (realI K W pl) (realG K is gd) (realT K W0 tt) (real K W0 te) vs σ H fun x H1 => rSortedSet w [x] H1 Q := by
  obtain ⟨g, ρ, M, F, O, q, ww, A, ⟨hW, pr⟩, hw, k⟩ := h
  refine ⟨g, ρ, M, F, O, _, ww, A, pr, hw, fun J H1 F1 O1 M1 ds A1 s1 wk q1 => fun D hD => ?_⟩
  obtain ⟨hlen, q1⟩ := q1
  have hF := A1.f0 hD
  have hO := A1.o0 hD
  have h0 := A1.g0 hD
  have A2 := (A1.laid (o := SetO w D (fun _ => false) 0) hD).wiped vs
  refine ⟨fun i m H' => ∃ M' F' O' acc n, Ab K g (wipe σ vs) H' (uns ρ vs) M' F' O' ∧ Same F1 F' ∧ i ≤ ds.length ∧ m = ds.length - i ∧ H' D = some (SetO w D (fun j => decide (j ∈ acc)) n) ∧ n ≤ i ∧ F' D = none ∧ O' D = none ∧ compI gd tt te (uns ρ vs) (ds.drop i) acc M' _,
    ⟨ds.length, M1, F1, O1, [], 0, A2, Same.refl F1, Nat.zero_le _, rfl, by
      have e : (fun j : Int => decide (j ∈ ([] : List Int))) = fun _ => false := by funext j; exact decide_eq_false (by simp)
      rw [e]; exact upd_same, Nat.le_refl _, hF, hO, q1⟩, ?_⟩
  rintro i m H2 ⟨M2, F2, O2, acc, n, A3, s3, hi2, rfl, e3, hn, f3, o3, q2⟩
  by_cases hlt : i < ds.length
  · have B := A3.here
    refine .inr ⟨wk.go _ _ _ _ _ _ _ i B s3 hlt, fun x H3 y3 => ?_⟩
    have hd := List.getElem?_eq_getElem hlt
    obtain ⟨F3, B4, s4, r4⟩ := wk.yl _ _ _ _ _ _ _ i x H3 _ B s3 y3 hd
    refine ⟨_, uns ρ vs, M2, F3, O2, _, _, B4, r4, compI_at hd q2, fun σ5 ρ5 B5 n5 l5 q5 => ?_⟩
    have ew : wipe σ5 vs = wipe σ vs := wipe_eq (by rw [l5, wipe_length]) fun j hj => (n5 j fun z => hj (hsub j z)).1
    have back : ∀ {H' : Hp} {M' : Mm} {F' : Hp} {O' : Own}, Ab K g σ5 H' ρ5 M' F' O' → Ab K g (wipe σ vs) H' (uns ρ vs) M' F' O' := fun {H' M' F' O'} Z => by
      have Z2 := Z.wiped vs
      rw [ew] at Z2
      refine Z2.congr (by rw [uns_len, uns_len, B5.len, l5, wipe_length, ← A1.len]) fun j => ?_
      by_cases hj : j ∈ vs
      · rw [gt_uns.2 hj, gt_uns.2 hj]
      · rw [gt_uns.1 hj, gt_uns.1 hj]
        have z := (n5 j fun z => hj (hsub j z)).2
        rw [gt_uns.1 hj] at z
        exact z.symm
    refine ⟨ew, _, ρ5, M2, F3, O2, _, w0, B5, q5, fun _ _ _ _ _ _ _ _ _ _ _ _ z => z, fun b H6 F6 O6 M6 B6 s6 q6 => ?_⟩
    cases b with
    | false =>
      rw [if_neg Bool.false_ne_true] at q6 ⊢
      obtain ⟨z1, z2, z3⟩ := kept_at A3 e3 f3 o3 B6
      exact ⟨ds.length - (i + 1), by omega, M6, F6, O6, acc, n, back (A3.there B6), (s3.trans s4).trans s6, hlt, rfl, z1, Nat.le_succ_of_le hn, z2, z3, q6⟩
    | true =>
      rw [if_pos rfl] at q6 ⊢
      refine ⟨_, ρ5, M6, F6, O6, _, w0, B6, q6, fun _ _ _ _ _ _ _ _ _ _ _ _ z => z, fun v H7 F7 O7 M7 d B7 s7 r7 q7 => ?_⟩
      obtain ⟨kk, rfl, q7⟩ := q7
      obtain ⟨z1, z2, z3⟩ := kept_at A3 e3 f3 o3 B7
      refine ⟨kk, _, n, r7, z1, ?_, ds.length - (i + 1), by omega, M7, F7, O7, acc ++ [kk], (if decide (kk ∈ acc) = true then n else n + 1), back ((A3.there B7).other z2 z3 h0), ((s3.trans s4).trans s6).trans s7, hlt, rfl, ?_, ?_, z2, z3, q7⟩
      · have : (64 : Nat) < scanBound := by decide
        omega
      · rw [← memS_app]; exact upd_same
      · split <;> omega
  · have e : i = ds.length := by omega
    subst e
    rw [List.drop_length] at q2
    refine .inl ⟨wk.sp _ _ _ _ _ _ _ A3 s3, ?_⟩
    have A4 := A3.unwiped A1 s3 hW
    refine ⟨D, _, n, rfl, e3, by omega, fun ns a h1 h2 h3 h4 => ?_⟩
    have q3 := q2 ns h1 (fun j => (h2 j).trans decide_eq_true_iff) (by omega)
    exact k a (ns.map V.int) _ F2 O2 M2 _ (A4.laid h4) (s1.trans s3) upd_same (RpL.of_ints ns) (A4.f0 h4) (A4.o0 h4) (A4.g0 h4) q3
theorem dl_sortSet (hc : X.calm = true) (hN : X.N.Nodup) (hi : DI X W tg iter pl) (ok : BlkOk X.N X.env.scope scope own)
    (hg : ∀ (s : Shared) (H : Hp) (C : Addr) (cs : List (Str × Addr)) (fp : List Addr), DG (X.blk s H scope (compEnvC scope cs C X.env) fp) tg is gd)
    (ht : ∀ (s : Shared) (H : Hp) (C : Addr) (cs : List (Str × Addr)) (fp : List Addr), DTs (X.blk s H scope (compEnvC scope cs C X.env) fp) W0 ifs tt)
    (he : ∀ (s : Shared) (H : Hp) (C : Addr) (cs : List (Str × Addr)) (fp : List Addr), DE (X.blk s H scope (compEnvC scope cs C X.env) fp) W0 elt te)
    (hgl : Gl X "sorted") (hm : X.mg "sorted" = none) (hsub : ∀ j ∈ is, j ∈ own.map (·.2) := by decide)
    (hs : ∀ x, foldedSetIterable iter X.env x = pure x := by intro _; rfl)
    (hst : starEach [Expr.SetComp elt [⟨tg, iter, ifs, 0⟩] scope pos] X.env = (false, eval (.SetComp elt [⟨tg, iter, ifs, 0⟩] scope pos) X.env) :: starEach [] X.env := by rfl) (hpl : (backTo pos2 (starEach [] X.env)).any (·.1) = false := by rfl) :
    DL X W (.Call (.Name "sorted" p) [.SetComp elt [⟨tg, iter, ifs, 0⟩] scope pos] [] pos2) (dSortSet (own.map (·.2)) pl gd tt te) :=
  pe_imp (pe_callB (cr_sortedSet hc) hgl hm (by decide +kernel) (pa_cons (pe_scI hc hN hi ok hg ht he hs) pa_nil hst) (by decide) (by decide) hst hpl) fun σ H Q h => scI_run hsub h
end
end Px

set_option Elab.async false
set_option linter.all false
set_option maxRecDepth 100000
namespace Px
open PySem PySem.Spec PyProof.Rows L2
/-! # range downwards -/
def rngDn (hi : Int) (n : Nat) : List D := (List.range n).map fun (i : Nat) => .int (hi - (i : Int))
theorem rngDn_at {hi : Int} {n i : Nat} {d : D} (h : (rngDn hi n)[i]? = some d) : d = .int (hi - (i : Int)) ∧ i < n := by
  unfold rngDn at h
  rw [List.getElem?_map] at h
  cases q : (List.range n)[i]? with
  | none => rw [q] at h; cases h
  | some j =>
    rw [q] at h
    cases h
    obtain ⟨h1, h2⟩ := List.getElem?_eq_some_iff.mp q
    rw [List.getElem_range] at h2
    rw [List.length_range] at h1
    subst h2
    exact ⟨rfl, h1⟩
theorem rngDn_len {hi : Int} {n : Nat} : (rngDn hi n).length = n := by unfold rngDn; rw [List.length_map, List.length_range]
theorem wk_down {K : PySem.W.Frag} {F : Hp} {hi : Int} {n : Nat} : Wk K (Itc hi (-1) n) F (rngDn hi n) where
  go := fun g σ ρ M F' O H i A s h => by rw [rngDn_len] at h; exact h
  yl := fun g σ ρ M F' O H i x H' d A s ⟨e, hx⟩ hd => by
    subst e
    obtain ⟨e1, _⟩ := rngDn_at hd
    subst e1
    refine ⟨F', A, Same.refl F', ?_⟩
    show x = V.int (hi - (i : Int))
    rw [hx]
    congr 1
    omega
  sp := fun g σ ρ M F' O H A s => by rw [rngDn_len]; exact Nat.le_refl _
def iR3 (pa pb pc : PTE) : PTA := fun w ρ M q => pa w ρ M fun x M1 => pb w ρ M1 fun y M2 => pc w ρ M2 fun z M3 => match x, y, z with
  | .int m, .int n, .int k => k = -1 ∧ -1000000 ≤ m ∧ m ≤ 1000000 ∧ -1000000 ≤ n ∧ n ≤ 1000000 ∧ q (rngDn m (m - n).toNat) M3
  | _, _, _ => False
/-- x or y: by the truth of a list -/
def dOrT (pa pb : PTE) : PTE := fun w ρ M q => pa w ρ M fun d M1 => match d with
  | .lst l => if l.isEmpty = true then pb w ρ M1 q else q (.lst l) M1
  | _ => False
section
variable {X : Cx} {W : WX} {tg a b c : Expr} {rest : List Expr} {pa pb pc : PTE} {pos p : Pos}
theorem di_r3 (hg : Gl X "range") (hm : X.mg "range" = none) (ha : DE X W a pa) (hb : DE X W b pb) (hc : DE X W c pc) (he : starEach [a, b, c] X.env = (false, eval a X.env) :: starEach [b, c] X.env := by rfl) (he2 : starEach [b, c] X.env = (false, eval b X.env) :: starEach [c] X.env := by rfl)
    (he3 : starEach [c] X.env = (false, eval c X.env) :: starEach [] X.env := by rfl) (hpl : (backTo pos (starEach [b, c] X.env)).any (·.1) = false := by rfl) : DI X W tg (.Call (.Name "range" p) [a, b, c] [] pos) (iR3 pa pb pc) :=
  pi_imp (pi_range3 hg hm (pa_cons ha (pa_cons hb (pa_cons hc pa_nil he3) he2) he) he hpl) fun σ H R ⟨g, ρ, M, F, O, q, w, A, pr, hw, k⟩ =>
  ⟨g, ρ, M, F, O, _, w, A, pr, hw, fun v H1 F1 O1 M1 d A1 s1 r1 q1 => ⟨g, ρ, M1, F1, O1, _, w, A1, q1, hw.mono s1, fun u H2 F2 O2 M2 e A2 s2 r2 q2 => ⟨g, ρ, M2, F2, O2, _, w, A2, q2, (hw.mono s1).mono s2, fun y H3 F3 O3 M3 f A3 s3 r3 q3 => by
    cases d with
    | int m =>
      cases e with
      | int n =>
        cases f with
        | int z =>
          obtain ⟨rfl, z1, z2, z3, z4, q4⟩ := q3
          exact ⟨m, n, -1, _, by rw [show v = .int m from r1, show u = .int n from r2, show y = .int (-1) from r3], RgC.neg (by omega) (by omega) (by omega) (by omega), k _ H3 F3 O3 M3 _ A3 ((s1.trans s2).trans s3) wk_down q4⟩
        | _ => exact (show False from q3).elim
      | _ => exact (show False from q3).elim
    | _ => exact (show False from q3).elim⟩⟩⟩
theorem de_orT (ha : DE X W a pa) (hb : DE X W (.BoolOp .Or (b :: rest) pos) pb) : DE X W (.BoolOp .Or (a :: b :: rest) pos) (dOrT pa pb) := pe_imp (pe_orT ha hb) fun σ H Q ⟨g, ρ, M, F, O, q, w, A, pr, hw, k⟩ =>
  ⟨g, ρ, M, F, O, _, w, A, pr, hw, fun v H1 F1 O1 M1 d A1 s1 r1 q1 => by
    cases d with
    | lst l =>
      have q1 : if l.isEmpty = true then pb w ρ M1 q else q (.lst l) M1 := q1
      have r0 := r1
      obtain ⟨a, xs, e, hs, rl⟩ := r1
      have el : l.isEmpty = xs.isEmpty := by
        have := rl.len
        cases l <;> cases xs <;> first | rfl | cases this
      refine ⟨!xs.isEmpty, by subst e; exact .inl ⟨xs, .inl (.inl (A1.sub _ _ hs)), rfl⟩, ?_⟩
      rw [el] at q1
      cases hx : xs.isEmpty with
      | true =>
        rw [hx, if_pos rfl] at q1
        exact ⟨g, ρ, M1, F1, O1, q, w, A1, q1, hw.mono s1, fun v H2 F2 O2 M2 d A2 s2 r2 q2 => k v H2 F2 O2 M2 d A2 (s1.trans s2) r2 q2⟩
      | false =>
        rw [hx, if_neg Bool.false_ne_true] at q1
        exact k v H1 F1 O1 M1 (.lst l) A1 s1 r0 q1
    | _ => exact (show False from q1).elim⟩
end
end Px

set_option Elab.async false
set_option linter.all false
set_option maxRecDepth 100000
namespace Px
open PySem PySem.Spec PyProof.Rows L2
/-! # constants_of -/
def consQ (p q : Int × Int) : List Int := [p.1 + q.1, p.2 + q.2, q.1 - p.2, q.2 - p.1]
def consL : Bs → List Int
  | [] => []
  | p :: r => [2 * p.1, 2 * p.2] ++ (r.flatMap (consQ p) ++ consL r)
theorem consL_mem {k : Int} : ∀ bs : Bs, k ∈ consL bs ↔ ∃ w ∈ wins bs, k = w.lo ∨ k = w.hi
  | [] => ⟨fun h => (nomatch h), fun ⟨w, h, _⟩ => (nomatch h)⟩
  | p :: r => by
    have ih := consL_mem (k := k) r
    have inner : k ∈ r.flatMap (consQ p) ↔ ∃ w ∈ r.flatMap (pairW p), k = w.lo ∨ k = w.hi := by
      constructor
      · intro h
        obtain ⟨q, hq, h⟩ := List.mem_flatMap.mp h
        unfold consQ at h
        simp only [List.mem_cons, List.not_mem_nil, or_false] at h
        rcases h with h | h | h | h
        · exact ⟨⟨p.1 + q.1, p.2 + q.2, false⟩, List.mem_flatMap.mpr ⟨q, hq, by simp [pairW]⟩, .inl h⟩
        · exact ⟨⟨p.1 + q.1, p.2 + q.2, false⟩, List.mem_flatMap.mpr ⟨q, hq, by simp [pairW]⟩, .inr h⟩
        · exact ⟨⟨q.1 - p.2, q.2 - p.1, false⟩, List.mem_flatMap.mpr ⟨q, hq, by simp [pairW]⟩, .inl h⟩
        · exact ⟨⟨q.1 - p.2, q.2 - p.1, false⟩, List.mem_flatMap.mpr ⟨q, hq, by simp [pairW]⟩, .inr h⟩
      · rintro ⟨w, hw, h⟩
        obtain ⟨q, hq, hw⟩ := List.mem_flatMap.mp hw
        refine List.mem_flatMap.mpr ⟨q, hq, ?_⟩
        unfold pairW at hw
        unfold consQ
        simp only [List.mem_cons, List.not_mem_nil, or_false] at hw ⊢
        rcases hw with rfl | rfl
        · dsimp only at h; omega
        · dsimp only at h; omega
    unfold consL wins
    simp only [List.mem_append, List.mem_cons, List.not_mem_nil, or_false]
    rw [inner, ih]
    constructor
    · rintro ((h | h) | h | h)
      · exact ⟨_, .inl rfl, .inl h⟩
      · exact ⟨_, .inl rfl, .inr h⟩
      · obtain ⟨w, hw, h⟩ := h
        exact ⟨w, .inr (.inl hw), h⟩
      · obtain ⟨w, hw, h⟩ := h
        exact ⟨w, .inr (.inr hw), h⟩
    · rintro ⟨w, rfl | hw | hw, h⟩
      · exact .inl h
      · exact .inr (.inl ⟨w, hw, h⟩)
      · exact .inr (.inr ⟨w, hw, h⟩)
theorem consL_len : ∀ {bs : Bs}, bs.length ≤ 4 → (consL bs).length < 64
  | [], _ => by decide
  | [a], _ => by simp [consL, consQ]
  | [a, b], _ => by simp [consL, consQ]
  | [a, b, c], _ => by simp [consL, consQ]
  | [a, b, c, d], _ => by simp [consL, consQ]
  | a :: b :: c :: d :: e :: r, h => by simp at h
theorem compI_flt {gd : PTG} {tt : PTT} {te : PTE} {ρ : Rho} {M : Mm} {q : List Int → Mm → Prop} (p : Int → Bool) : ∀ (ns acc : List Int),
    (∀ n ∈ ns, ∀ (kt : D → Mm → Prop) (kf : Mm → Prop), (if p n = true then kt (.int n) M else kf M) → gd (.int n) ρ fun ρ' => tt w0 ρ' M fun b M1 => if b = true then te w0 ρ' M1 kt else kf M1) →
    q (acc ++ ns.filter p) M → compI gd tt te ρ (ns.map .int) acc M q
  | [], acc, _, h => by
    have h : q (acc ++ []) M := h
    rw [List.append_nil] at h
    exact h
  | n :: r, acc, hb, h => by
    refine hb n List.mem_cons_self _ _ ?_
    rw [List.filter_cons] at h
    by_cases c : p n = true
    · rw [if_pos c] at h ⊢
      refine ⟨n, rfl, compI_flt p r (acc ++ [n]) (fun x hx => hb x (List.mem_cons_of_mem _ hx)) ?_⟩
      rw [List.append_assoc]
      exact h
    · rw [if_neg c] at h ⊢
      exact compI_flt p r acc (fun x hx => hb x (List.mem_cons_of_mem _ hx)) h
abbrev intL (ns : List Int) : D := .lst (ns.map .int)
def sp_constants_of (C : Cl) : PSp := fun ds M q _ => ar1 ds fun d => ∃ bs, IsBs d bs ∧ (BsOk bs ∧ bs.length ≤ 4) ∧ ∀ cs : List Int, CsOk cs → ConsOf (wins bs) cs → cs.length < 64 → q (intL cs) M
def rd_c2 : PTS := (dSet 1 (dOp fAdd (dVar 1) (dL (dLst (dCons (dOp fAdd (dOp fIx (dVar 3) (dC (.int 0))) (dOp fIx (dVar 4) (dC (.int 0)))) (dCons (dOp fAdd (dOp fIx (dVar 3) (dC (.int 1))) (dOp fIx (dVar 4) (dC (.int 1)))) (dCons (dOp fSub (dOp fIx (dVar 4) (dC (.int 0))) (dOp fIx (dVar 3) (dC (.int 1)))) (dCons (dOp fSub (dOp fIx (dVar 4) (dC (.int 1))) (dOp fIx (dVar 3) (dC (.int 0)))) dNil))))))))
def rd_c1 : PTS := (dSeq (dSet 1 (dOp fAdd (dVar 1) (dL (dLst (dCons (dOp fMul (dC (.int 2)) (dOp fIx (dVar 3) (dC (.int 0)))) (dCons (dOp fMul (dC (.int 2)) (dOp fIx (dVar 3) (dC (.int 1)))) dNil))))))
    (dFor (iA (dSl (dVar 0) (dPt (dOp fAdd (dVar 2) (dC (.int 1)))) dNo)) (gNm 4) rd_c2))
theorem cons_inner {w : PWi} {M : Mm} {P : PEnds} {B at' x5 : Option Sv} {p : Int × Int} : ∀ (r : Bs) (acc : List Int), acc.length + 4 * r.length ≤ 1000000 →
    (∀ x4, P.nx [B, some (.val (intL (acc ++ r.flatMap (consQ p)))), at', some (.val (prD p)), x4, x5] M) → ∀ x4, forR (gNm 4) rd_c2 w (bsD r) P [B, some (.val (intL acc)), at', some (.val (prD p)), x4, x5] M
  | [], acc, _, h, x4 => by
    have h := h x4
    rw [List.flatMap_nil, List.append_nil] at h
    exact h
  | x :: r, acc, hl, h, x4 => by
    have hl : acc.length + 4 * (r.length + 1) ≤ 1000000 := hl
    refine ⟨_, rfl, _, rfl, _, rfl, _, rfl, _, rfl, _, rfl, _, rfl, _, rfl, (by decide : (4 : Nat) ≤ 1000000), ?_, ?_⟩
    · rw [List.length_map]
      show acc.length + 4 ≤ 1000000
      omega
    · show forR (gNm 4) rd_c2 w (bsD r) P [B, some (.val (.lst (acc.map D.int ++ (consQ p x).map D.int))), at', some (.val (prD p)), some (.val (prD x)), x5] M
      rw [← List.map_append]
      refine cons_inner r (acc ++ consQ p x) (by rw [List.length_append, show (consQ p x).length = 4 from rfl]; omega) (fun x4 => ?_) _
      have h := h x4
      rw [List.flatMap_cons, ← List.append_assoc] at h
      exact h
theorem cons_outer {w : PWi} {M : Mm} {P : PEnds} {B : D} {bs : Bs} (hB : IsBs B bs) : ∀ (r pre : Bs) (acc : List Int), bs = pre ++ r → BsOk r → acc.length + (consL r).length ≤ 1000000 →
    (∀ x2 x3 x4, P.nx [some (.val B), some (.val (intL (acc ++ consL r))), x2, x3, x4, none] M) →
    ∀ x2 x3 x4, forR gEn rd_c1 w (enumD pre.length (bsD r)) P [some (.val B), some (.val (intL acc)), x2, x3, x4, none] M
  | [], pre, acc, _, _, _, h, x2, x3, x4 => by
    have h := h x2 x3 x4
    unfold consL at h
    rw [List.append_nil] at h
    exact h
  | p :: r, pre, acc, eb, hb, hl, h, x2, x3, x4 => by
    obtain ⟨hp, hbr, -⟩ := hb.cons
    have ecut : cutD (bsD bs) (some ((pre.length : Int) + 1)) none = bsD r := by
      rw [cut_from, eb]
      unfold bsD
      rw [List.map_append, show pre.length + 1 = (pre.map prD).length + 1 by rw [List.length_map], List.drop_append, List.drop_eq_nil_of_le (by omega)]
      simp
    unfold consL at hl h
    have ln : (r.flatMap (consQ p)).length = 4 * r.length := by
      clear hl h ecut hbr hb eb
      induction r with
      | nil => rfl
      | cons x r ih => rw [List.flatMap_cons, List.length_append, ih]; show 4 + 4 * r.length = 4 * (r.length + 1); omega
    simp only [List.length_append, ln] at hl
    have hl : acc.length + (2 + (4 * r.length + (consL r).length)) ≤ 1000000 := hl
    have go : ∀ L : List D, L = bsD r → forR (gNm 4) rd_c2 w L { P with nx := forR gEn rd_c1 w (enumD (pre.length + 1) (bsD r)) P, ct := forR gEn rd_c1 w (enumD (pre.length + 1) (bsD r)) P, bk := P.nx }
        [some (.val B), some (.val (intL (acc ++ [2 * p.1, 2 * p.2]))), some (.val (.int (pre.length : Nat))), some (.val (prD p)), x4, none] M := by
      rintro L rfl
      refine cons_inner r _ (by simp only [List.length_append]; show acc.length + 2 + 4 * r.length ≤ _; omega) (fun x4 => ?_) _
      have z := cons_outer (w := w) (P := P) (M := M) hB r (pre ++ [p]) (acc ++ [2 * p.1, 2 * p.2] ++ r.flatMap (consQ p)) (by rw [eb]; simp) hbr (by simp only [List.length_append, ln]; show acc.length + 2 + 4 * r.length + (consL r).length ≤ _; omega) (fun x2 x3 x4 => by
        have h := h x2 x3 x4
        rw [← List.append_assoc, ← List.append_assoc] at h
        exact h) (some (.val (.int (pre.length : Nat)))) (some (.val (prD p))) x4
      rw [List.length_append] at z
      exact z
    have b1 := hp.1
    have b2 := hp.2.1
    have b3 := hp.2.2
    have sm1 : Sz p.1 := Sz.of (by omega) (by omega)
    have sm2 : Sz p.2 := Sz.of (by omega) (by omega)
    refine ⟨rfl, _, rfl, sz2.mul sm1, _, rfl, sz2.mul sm2, (by decide : (2 : Nat) ≤ 1000000), ?_, ?_⟩
    · rw [List.length_map]
      show acc.length + 2 ≤ 1000000
      omega
    · have hg := fun (L : List D) (e : L = bsD r) => go L e
      rw [show intL (acc ++ [2 * p.1, 2 * p.2]) = .lst (acc.map D.int ++ [2 * p.1, 2 * p.2].map D.int) by rw [intL, List.map_append]] at hg
      rcases hB with rfl | rfl
      · exact hg _ ecut
      · exact hg _ ecut
end Px

set_option Elab.async false
set_option linter.all false
set_option maxRecDepth 100000
namespace Px
open PySem PySem.Spec PyProof.Rows L2
def rd_constants_of (C : Cl) : PTS := (dSeq (dSet 1 (dL (dLst dNil)))
    (dSeq (dFor (iEA (dVar 0)) (gTp 2 (gsCons (gNm 2) (gsCons (gNm 3) gsNil))) (dSeq (dSet 1 (dOp fAdd (dVar 1) (dL (dLst (dCons (dOp fMul (dC (.int 2)) (dOp fIx (dVar 3) (dC (.int 0)))) (dCons (dOp fMul (dC (.int 2)) (dOp fIx (dVar 3) (dC (.int 1)))) dNil))))))
    (dFor (iA (dSl (dVar 0) (dPt (dOp fAdd (dVar 2) (dC (.int 1)))) dNo)) (gNm 4) (dSet 1 (dOp fAdd (dVar 1) (dL (dLst (dCons (dOp fAdd (dOp fIx (dVar 3) (dC (.int 0))) (dOp fIx (dVar 4) (dC (.int 0)))) (dCons (dOp fAdd (dOp fIx (dVar 3) (dC (.int 1))) (dOp fIx (dVar 4) (dC (.int 1)))) (dCons (dOp fSub (dOp fIx (dVar 4) (dC (.int 0))) (dOp fIx (dVar 3) (dC (.int 1)))) (dCons (dOp fSub (dOp fIx (dVar 4) (dC (.int 1))) (dOp fIx (dVar 3) (dC (.int 0)))) dNil)))))))))))
    (dRet (dL (dSortSet [5] (iA (dVar 1)) (gNm 5) (dTst (dOp fGt (dVar 5) (dC (.int 0)))) (dVar 5))))))
def rd_next_change (C : Cl) : PTS := (dSeq (dSet 2 (dC .non))
    (dSeq (dFor (iA (dVar 0)) (gNm 3) (dSeq (dSet 4 (dOp fDiv (dOp fSub (dOp fMul (dVar 3) (dOp fIx (dVar 1) (dC (.int 1)))) (dC (.int 1))) (dOp fMul (dC (.int 2)) (dOp fIx (dVar 1) (dC (.int 0))))))
    (dIfS (dAnd (dTst (dOp fGt (dVar 4) (dC (.int 0)))) (dOr (dTst (dOp fIs (dVar 2) (dC .non))) (dTst (dCall (sp_is_below C) [] (dCons (dTup (dCons (dVar 3) (dCons (dOp fMul (dC (.int 2)) (dVar 4)) dNil))) (dCons (dVar 2) dNil)))))) (dSet 2 (dCall (sp_lowest C) [] (dCons (dVar 3) (dCons (dOp fMul (dC (.int 2)) (dVar 4)) dNil)))) dNext)))
    (dRet (dVar 2))))
theorem cons_is {bs : Bs} (hb : BsOk bs) {ms : List Int} (h : ∀ k, k ∈ ms ↔ k ∈ (consL bs).filter fun n => decide (0 < n)) : CsOk ms ∧ ConsOf (wins bs) ms := by
  have key : ∀ k, k ∈ ms ↔ 0 < k ∧ ∃ w ∈ wins bs, k = w.lo ∨ k = w.hi := fun k => by
    rw [h, List.mem_filter, consL_mem, decide_eq_true_eq]
    exact And.comm
  refine ⟨fun k hk => ?_, key⟩
  obtain ⟨h1, w, hw, h2⟩ := (key k).mp hk
  have := wins_el hb w hw
  omega
theorem sh_constants_of (C : Cl) : Shows (sp_constants_of C) 6 (rd_constants_of C) := by
  intro ds M q e h
  obtain ⟨d, rfl, bs, hB, ⟨hb, hl⟩, hq⟩ := ar1_of h
  have len := consL_len hl
  have fin : ∀ (P : PEnds) (w : PWi) (B : D) (x2 x3 x4 : Option Sv), (∀ cs, CsOk cs → ConsOf (wins bs) cs → cs.length < 64 → P.rt (intL cs) M) →
      dRet (dL (dSortSet [5] (iA (dVar 1)) (gNm 5) (dTst (dOp fGt (dVar 5) (dC (.int 0)))) (dVar 5))) w P [some (.val B), some (.val (intL ([] ++ consL bs))), x2, x3, x4, none] M := by
    intro P w B x2 x3 x4 hP
    refine ⟨rfl, ?_, ?_⟩
    · show ((consL bs).map D.int).length < 64
      rw [List.length_map]
      exact len
    · refine compI_flt (fun n => decide (0 < n)) (consL bs) [] (fun n hn kt kf hh => ?_) fun ms h1 h2 h3 => ?_
      · by_cases c : 0 < n
        · rw [if_pos (decide_eq_true c)] at hh
          exact itT (decide_eq_true c) hh
        · rw [if_neg (by rw [decide_eq_false c]; exact Bool.false_ne_true)] at hh
          exact itF (decide_eq_false c) hh
      · obtain ⟨z1, z2⟩ := cons_is hb h2
        exact hP ms z1 z2 h3
  have hq' : ∀ cs, CsOk cs → ConsOf (wins bs) cs → cs.length < 64 → ∃ M2, MLe M2 M ∧ q (intL cs) M2 := fun cs h1 h2 h3 => ⟨M, MLe.refl M, hq cs h1 h2 h3⟩
  have l0 : ([] : List Int).length + (consL bs).length ≤ 1000000 := by
    show 0 + _ ≤ _
    omega
  rcases hB with rfl | rfl
  · exact ⟨Nat.zero_le _, cons_outer (.inl rfl) bs [] [] rfl hb l0 (fun x2 x3 x4 => fin _ _ _ x2 x3 x4 hq') none none none⟩
  · exact ⟨Nat.zero_le _, cons_outer (.inr rfl) bs [] [] rfl hb l0 (fun x2 x3 x4 => fin _ _ _ x2 x3 x4 hq') none none none⟩
/-! # next_change -/
def optR : Option Rt → D
  | none => .non
  | some p => prD p
def sp_next_change (C : Cl) : PSp := fun ds M q _ => ar2 ds fun d r => ∃ cs, d = intL cs ∧ asP r fun a b => (CsOk cs ∧ VR (a, b) ∧ b ≤ a ∧ RtOk a b) ∧ q (optR (nextV cs a b)) M
def rd_n1 (C : Cl) : PTS := (dSeq (dSet 4 (dOp fDiv (dOp fSub (dOp fMul (dVar 3) (dOp fIx (dVar 1) (dC (.int 1)))) (dC (.int 1))) (dOp fMul (dC (.int 2)) (dOp fIx (dVar 1) (dC (.int 0))))))
    (dIfS (dAnd (dTst (dOp fGt (dVar 4) (dC (.int 0)))) (dOr (dTst (dOp fIs (dVar 2) (dC .non))) (dTst (dCall (sp_is_below C) [] (dCons (dTup (dCons (dVar 3) (dCons (dOp fMul (dC (.int 2)) (dVar 4)) dNil))) (dCons (dVar 2) dNil)))))) (dSet 2 (dCall (sp_lowest C) [] (dCons (dVar 3) (dCons (dOp fMul (dC (.int 2)) (dVar 4)) dNil)))) dNext))
theorem next_loop {C : Cl} {w : PWi} {M : Mm} {P : PEnds} {B : Option Sv} {a b : Int} (hv : VR (a, b)) (hge : b ≤ a) (hr : RtOk a b) : ∀ (cs : List Int) (pre : List Int) (f : Option Rt), CsOk cs → IsNext pre (a, b) f →
    (∀ x3 x4, P.nx [B, some (.val (prD (a, b))), some (.val (optR (cs.foldl (nextS a b) f))), x3, x4] M) → ∀ x3 x4, forR (gNm 3) (rd_n1 C) w (cs.map .int) P [B, some (.val (prD (a, b))), some (.val (optR f)), x3, x4] M
  | [], pre, f, _, _, h, x3, x4 => h x3 x4
  | c :: r, pre, f, hc, hn, h, x3, x4 => by
    have hc1 := hc c List.mem_cons_self
    obtain ⟨s1, s2, s3⟩ := next_step hv hge hc1 hn
    obtain ⟨a0, b0, _⟩ := hv
    have a0 : 0 < a := a0
    have b0 : 0 < b := b0
    have szb := hr.sb
    have hsz := hr.2.2.2
    have ha := hr.2.1
    have szc : Sz c := Sz.of (by omega) (by omega)
    have cb : 0 < c * b := Int.mul_pos (by omega) b0
    have cb2 : c * b ≤ 2000 * 10 ^ 30 := by
      have h1 := Int.mul_le_mul_of_nonneg_right hc1.2 (show 0 ≤ b by omega)
      omega
    have t0 : 0 ≤ timesV c a b := Int.ediv_nonneg (by omega) (by omega)
    have t1 : timesV c a b ≤ c * b - 1 := Int.ediv_le_self _ (by omega)
    have rest := fun (f' : Option Rt) (hf' : f' = nextS a b f c) (hn' : IsNext (pre ++ [c]) (a, b) f') x3 x4 => next_loop (C := C) (w := w) (P := P) (M := M) (B := B) ⟨a0, b0, by assumption⟩ hge hr r (pre ++ [c]) f' (fun x hx => hc x (List.mem_cons_of_mem _ hx)) hn' (fun x3 x4 => by
      rw [hf']; exact h x3 x4) x3 x4
    have hx : CDivW (c * b - 1) (2 * a) := Sz.div (Sz.of (by omega) (by omega)) (by omega) _
    refine ⟨_, rfl, szc.mul szb, _, rfl, sz2.mul hr.sa, hx, ?_⟩
    by_cases ht : 0 < timesV c a b
    · refine itT (decide_eq_true ht) ?_
      have T2 : Sz (timesV c a b) := Sz.of (by omega) (by omega)
      have T3 : Sz (2 * timesV c a b) := Sz.of (by omega) (by omega)
      have low := (lowR_spec (x := c) (y := 2 * timesV c a b) (by omega) (by omega)).2.2.2.2
      have bd : Bd (2 * timesV c a b) := Bd.sm (by omega) T3.2
      have e2 : f = none → nextS a b f c = some (lowR c (2 * timesV c a b)) := fun e => by
        rw [e]; unfold nextS; rw [if_pos ht]
      cases f with
      | none =>
        refine ⟨rfl, sz2.mul T2, ⟨by omega, show 0 < 2 * timesV c a b by omega, bd, ?_⟩⟩
        have z := rest _ (e2 rfl).symm (s2 ht rfl) (some (.val (.int c))) (some (.val (.int (timesV c a b))))
        rw [show optR (some (lowR c (2 * timesV c a b))) = spd c (2 * timesV c a b) from low.symm] at z
        exact z
      | some q =>
        obtain ⟨a1, _, a3, a4, _⟩ := hn.so q rfl
        have q1 := a1.1
        have q2 := a1.2.1
        refine ⟨rfl, sz2.mul T2, (by decide : (2 : Nat) ≤ 1000000), ⟨szc, T3, Sz.of (by omega) (by omega), Sz.of (by omega) (by omega)⟩, ?_⟩
        by_cases hl : c * q.2 < q.1 * (2 * timesV c a b)
        · refine itT (decide_eq_true hl) ⟨sz2.mul T2, ⟨by omega, show 0 < 2 * timesV c a b by omega, bd, ?_⟩⟩
          have z := rest (some (lowR c (2 * timesV c a b))) (by unfold nextS; rw [if_pos ht]; dsimp only; rw [if_pos hl]) ((s3 q rfl ht).1 hl) (some (.val (.int c))) (some (.val (.int (timesV c a b))))
          rw [show optR (some (lowR c (2 * timesV c a b))) = spd c (2 * timesV c a b) from low.symm] at z
          exact z
        · exact itF (decide_eq_false hl) (rest (some q) (by unfold nextS; rw [if_pos ht]; dsimp only; rw [if_neg hl]) ((s3 q rfl ht).2 hl) _ _)
    · exact itF (decide_eq_false ht) (rest f (by unfold nextS; rw [if_neg ht]) (s1 (show timesV c a b ≤ 0 by omega)) _ _)
theorem sh_next_change (C : Cl) : Shows (sp_next_change C) 5 (rd_next_change C) := by
  intro ds M q e h
  obtain ⟨d, r, rfl, cs, rfl, h2⟩ := ar2_of h
  obtain ⟨a, b, rfl, ⟨hc, hv, hge, hr⟩, hq⟩ := asP_of h2
  show forR (gNm 3) (rd_n1 C) _ (cs.map .int) _ [some (.val (intL cs)), some (.val (prD (a, b))), some (.val (optR none)), none, none] M
  refine next_loop (C := C) hv hge hr cs [] none hc ⟨fun _ _ h => (nomatch h), fun _ h => (nomatch h)⟩ (fun x3 x4 => ?_) none none
  exact ⟨M, MLe.refl M, hq⟩
/-! # between -/
def rd_between (C : Cl) : PTS := (dSeq (dIfS (dTst (dOp fIs (dVar 1) (dC .non))) (dRet (dTup (dCons (dOp fAdd (dOp fDiv (dOp fIx (dVar 0) (dC (.int 0))) (dOp fIx (dVar 0) (dC (.int 1)))) (dC (.int 1))) (dCons (dC (.int 1)) dNil)))) dNext)
    (dRet (dCall (sp_lowest C) [] (dCons (dOp fAdd (dOp fMul (dOp fIx (dVar 0) (dC (.int 0))) (dOp fIx (dVar 1) (dC (.int 1)))) (dOp fMul (dOp fIx (dVar 1) (dC (.int 0))) (dOp fIx (dVar 0) (dC (.int 1))))) (dCons (dOp fMul (dOp fMul (dC (.int 2)) (dOp fIx (dVar 0) (dC (.int 1)))) (dOp fIx (dVar 1) (dC (.int 1)))) dNil)))))
def sp_between (C : Cl) : PSp := fun ds M q _ => ar2 ds fun d o => asP d fun a b => ∃ f : Option Rt, o = optR f ∧ (VR (a, b) ∧ a ≤ 10 ^ 25 ∧ b ≤ 10 ^ 25 ∧ ∀ p, f = some p → VR p ∧ ltR (a, b) p ∧ p.1 ≤ 2000 ∧ p.2 ≤ 2000) ∧
  ∀ r : Rt, VR r → ltR (a, b) r → (∀ p, f = some p → ltR r p) → RtOk r.1 r.2 → q (prD r) M
theorem sh_between (C : Cl) : Shows (sp_between C) 2 (rd_between C) := by
  intro ds M q e h
  obtain ⟨d, o, rfl, h⟩ := ar2_of h
  obtain ⟨a, b, rfl, f, rfl, ⟨hv, ha, hb, hf⟩, hq⟩ := asP_of h
  obtain ⟨a0, b0, h1⟩ := hv
  have a0 : 0 < a := a0
  have b0 : 0 < b := b0
  have sa : Sz a := Sz.of (by omega) (by omega)
  have sb : Sz b := Sz.of (by omega) (by omega)
  cases f with
  | none =>
    have e1 := Int.mul_ediv_add_emod a b
    have e2 := Int.emod_lt_of_pos a b0
    have e3 := Int.ediv_nonneg (Int.le_of_lt a0) (Int.le_of_lt b0)
    have e4 := Int.ediv_le_self b (Int.le_of_lt a0)
    refine ⟨rfl, _, rfl, _, rfl, sb.div b0 a, (by decide : (2 : Nat) ≤ 1000000), M, MLe.refl M, ?_⟩
    refine hq (a / b + 1, 1) ⟨by show 0 < a / b + 1; omega, show (0 : Int) < 1 by decide, ?_⟩ ?_ (fun p e => (nomatch e)) ⟨by show 0 < a / b + 1; omega, ?_, show (0 : Int) < 1 by decide, show (1 : Int) ≤ 10 ^ 30 by decide⟩
    · show g0 (a / b + 1) 1 = 1
      unfold g0
      simp
    · unfold ltR
      show a * 1 < (a / b + 1) * b
      rw [Int.add_mul, Int.mul_comm (a / b)]
      omega
    · have := Int.ediv_le_self (a := a) b (Int.le_of_lt a0)
      show a / b + 1 ≤ 10 ^ 30
      omega
  | some p =>
    obtain ⟨⟨p0, p1, p2⟩, plt, p3, p4⟩ := hf p rfl
    have sp1 : Sz p.1 := Sz.of (by omega) (by omega)
    have sp2 : Sz p.2 := Sz.of (by omega) (by omega)
    have m1 := Int.mul_pos a0 p1
    have m2 := Int.mul_pos p0 b0
    have m3 := Int.mul_pos b0 p1
    have l1 : a * p.2 ≤ 10 ^ 25 * 2000 := Int.mul_le_mul ha p4 (by omega) (by decide)
    have l2 : p.1 * b ≤ 2000 * 10 ^ 25 := Int.mul_le_mul p3 hb (by omega) (by decide)
    have l3 : b * p.2 ≤ 10 ^ 25 * 2000 := Int.mul_le_mul hb p4 (by omega) (by decide)
    have e2 : 2 * b * p.2 = 2 * (b * p.2) := by grind
    obtain ⟨w1, w2, w3, w4, w5⟩ := lowR_spec (x := a * p.2 + p.1 * b) (y := 2 * b * p.2) (by omega) (by omega)
    refine ⟨rfl, _, rfl, _, rfl, sa.mul sp2, _, rfl, _, rfl, sp1.mul sb, _, rfl, sz2.mul sb, _, rfl, Sz.mul (Sz.of (by omega) (by omega)) sp2, ⟨by omega, by omega, Bd.sm (by omega) (by omega), M, MLe.refl M, ?_⟩⟩
    rw [w5]
    have cut : ∀ {x y : Int}, ltR (x, y) (lowR (a * p.2 + p.1 * b) (2 * b * p.2)) ↔ x * (2 * b * p.2) < (a * p.2 + p.1 * b) * y := by
      intro x y
      unfold ltR
      dsimp only
      rw [sc_lt (k := 2 * b * p.2) (by omega), sc_lt (x := x * (2 * b * p.2)) (k := (lowR (a * p.2 + p.1 * b) (2 * b * p.2)).2) w1.2.1]
      rw [show (a * p.2 + p.1 * b) * y * (lowR (a * p.2 + p.1 * b) (2 * b * p.2)).2 = (a * p.2 + p.1 * b) * (lowR (a * p.2 + p.1 * b) (2 * b * p.2)).2 * y by grind, w2]
      rw [show x * (lowR (a * p.2 + p.1 * b) (2 * b * p.2)).2 * (2 * b * p.2) = x * (2 * b * p.2) * (lowR (a * p.2 + p.1 * b) (2 * b * p.2)).2 by grind, show (lowR (a * p.2 + p.1 * b) (2 * b * p.2)).1 * y * (2 * b * p.2) = (lowR (a * p.2 + p.1 * b) (2 * b * p.2)).1 * (2 * b * p.2) * y by grind]
    refine hq _ w1 (cut.mpr ?_) (fun p' e => ?_) ⟨w1.1, by omega, w1.2.1, by omega⟩
    · unfold ltR at plt
      dsimp only at plt
      have := Int.mul_lt_mul_of_pos_left plt b0
      have e3 : a * (2 * b * p.2) = 2 * (b * (a * p.2)) := by grind
      have e4 : (a * p.2 + p.1 * b) * b = b * (a * p.2) + b * (p.1 * b) := by grind
      omega
    · cases e
      unfold ltR at plt ⊢
      dsimp only at plt ⊢
      rw [sc_lt (k := 2 * b * p.2) (by omega)]
      rw [show (lowR (a * p.2 + p.1 * b) (2 * b * p.2)).1 * p.2 * (2 * b * p.2) = (lowR (a * p.2 + p.1 * b) (2 * b * p.2)).1 * (2 * b * p.2) * p.2 by grind, ← w2]
      have w0 := w1.2.1
      generalize (lowR (a * p.2 + p.1 * b) (2 * b * p.2)).2 = k at *
      have z := Int.mul_lt_mul_of_pos_left plt (Int.mul_pos w0 p1)
      have e3 : (a * p.2 + p.1 * b) * k * p.2 = k * p.2 * (a * p.2) + k * p.2 * (p.1 * b) := by grind
      have e4 : p.1 * k * (2 * b * p.2) = 2 * (k * p.2 * (p.1 * b)) := by grind
      omega
/-! # widest -/
def rd_widest (C : Cl) : PTS := (dRet (dTup (dCons (dB1 fMax (dL (dComp [1, 2] (iA (dVar 0)) (gTp 2 (gsCons (gNm 1) (gsCons (gNm 2) gsNil))) dYes (dOp fSub (dVar 2) (dVar 1))))) (dCons (dC (.int 1)) dNil))))
def IsW (bs : Bs) (w : Int) : Prop := (∀ p ∈ bs, p.2 - p.1 ≤ w) ∧ ∃ p ∈ bs, w = p.2 - p.1
def sp_widest (C : Cl) : PSp := fun ds M q _ => ar1 ds fun d => ∃ bs, IsBs d bs ∧ (BsOk bs ∧ 0 < bs.length ∧ bs.length ≤ 4) ∧ ∀ w, IsW bs w → q (prD (w, 1)) M
theorem sh_widest (C : Cl) : Shows (sp_widest C) 3 (rd_widest C) := by
  intro ds M q e h
  obtain ⟨d, rfl, bs, hB, ⟨hb, h0, hl⟩, hq⟩ := ar1_of h
  have run : ∀ (B : D) (K : List D → Mm → Prop), K (bs.map fun p => .int (p.2 - p.1)) M →
      compR (gTp 2 (gsCons (gNm 1) (gsCons (gNm 2) gsNil))) dYes (dOp fSub (dVar 2) (dVar 1)) [some (.val B), none, none] (bsD bs) [] M K := by
    intro B K hK
    refine compR_map (fun d => match d with | .tup [.int x, .int y] => .int (y - x) | d => d) (bsD bs) (fun d hd kt kf k => ?_) ?_ ?_
    · obtain ⟨p, _, rfl⟩ := List.mem_map.mp hd
      exact ⟨rfl, k⟩
    · unfold bsD
      rw [List.length_map]
      omega
    · unfold bsD
      rw [List.map_map]
      exact hK
  have fin : (∃ M2, MLe M2 M ∧ ∀ w, IsW bs w → q (prD (w, 1)) M2) := ⟨M, MLe.refl M, hq⟩
  have hmax : ∀ B : D, fMax (.lst (bs.map fun p => .int (p.2 - p.1))) fun d => (2 : Nat) ≤ 1000000 ∧ ∃ M2, MLe M2 M ∧ q (.tup [d, .int 1]) M2 := by
    intro B
    cases bs with
    | nil => cases h0
    | cons p r =>
      have ei : ∀ l : List (Int × Int), intsOf (l.map fun p => .int (p.2 - p.1)) = some (l.map fun p => p.2 - p.1) := by
        intro l
        induction l with
        | nil => rfl
        | cons x l ih =>
          show (intsOf (l.map fun p => .int (p.2 - p.1))).map ((x.2 - x.1) :: ·) = _
          rw [ih]
          rfl
      unfold fMax
      dsimp only
      rw [ei]
      refine ⟨by decide, M, MLe.refl M, ?_⟩
      obtain ⟨m1, m2⟩ := maxL_le (r.map fun p => p.2 - p.1) (p.2 - p.1)
      have m3 := maxL_mem (r.map fun p => p.2 - p.1) (p.2 - p.1)
      refine hq _ ⟨fun x hx => ?_, ?_⟩
      · rcases List.mem_cons.mp hx with rfl | hx
        · exact m1
        · exact m2 _ (List.mem_map.mpr ⟨x, hx, rfl⟩)
      · rcases List.mem_cons.mp m3 with e | e
        · exact ⟨p, List.mem_cons_self, e⟩
        · obtain ⟨x, hx, e⟩ := List.mem_map.mp e
          exact ⟨x, List.mem_cons_of_mem _ hx, e.symm⟩
  rcases hB with rfl | rfl
  · exact ⟨rfl, run _ _ (hmax .non)⟩
  · exact ⟨rfl, run _ _ (hmax .non)⟩
end Px

set_option Elab.async false
set_option linter.all false
set_option maxRecDepth 100000
namespace Px
open PySem PySem.Spec PyProof.Rows L2
/-! # `a, xs, b, c = e, [], f, g`: by a tuple -/
theorem WOk.here {K : PySem.W.Frag} {g : Gh} {σ : L2.St} {H F : Hp} {ρ : Rho} {M : Mm} {O : Own} {W : WX} {w : PWi} (A : Ab K g σ H ρ M F O) (h : WOk K g F W w) : WOk K (g.here H F O) F W w :=
  fun cls dd σ' H' ρ' M' F' O' fs A' s x y => h cls dd σ' H' ρ' M' F' O' fs (A.there A') s x y
def dPar4L (i j l m : Nat) (pa pb pc : PTE) : PTS := fun w P ρ M => pa w ρ M fun a M1 => pb w ρ M1 fun b M2 => pc w ρ M2 fun c M3 => P.nx (st (st (st (st ρ i (.val a)) j (.own [])) l (.val b)) m (.val c)) M3
section
variable {X : Cx} {W : WX} {pa pb pc : PTE}
theorem ds_par4L (i j l m : Nat) {x y z u : Str} {a b c : Expr} {px py pz pu pt p2 : Pos} {kt k2 pt2} {pos : Pos} (hc : X.calm = true) (hN : X.N.Nodup) (ha : DE X W a pa) (hb : DE X W b pb) (hcc : DE X W c pc)
    (hi : X.N[i]? = some x := by rfl) (hj : X.N[j]? = some y := by rfl) (hl : X.N[l]? = some z := by rfl) (hm : X.N[m]? = some u := by rfl)
    (hx : X.env.scope.names.lookup x = some .local := by rfl) (hy : X.env.scope.names.lookup y = some .local := by rfl) (hz : X.env.scope.names.lookup z = some .local := by rfl) (hu : X.env.scope.names.lookup u = some .local := by rfl)
    (h1 : starEach [a, .List [] p2, b, c] X.env = (false, eval a X.env) :: starEach [.List [] p2, b, c] X.env := by rfl) (h2 : starEach [.List [] p2, b, c] X.env = (false, eval (.List [] p2) X.env) :: starEach [b, c] X.env := by rfl)
    (h3 : starEach [b, c] X.env = (false, eval b X.env) :: starEach [c] X.env := by rfl) (h4 : starEach [c] X.env = (false, eval c X.env) :: starEach [] X.env := by rfl)
    (hs : swapsWithSole [.Tuple [.Name x px, .Name y py, .Name z pz, .Name u pu] kt pt] (.Tuple [a, .List [] p2, b, c] k2 pt2) pos.line X.env = pure false := by rfl)
    (hw : swappedStores [.Tuple [.Name x px, .Name y py, .Name z pz, .Name u pu] kt pt] (.Tuple [a, .List [] p2, b, c] k2 pt2) X.env = pure none := by rfl) :
    DS X W (.Assign [.Tuple [.Name x px, .Name y py, .Name z pz, .Name u pu] kt pt] (.Tuple [a, .List [] p2, b, c] k2 pt2) pos) (dPar4L i j l m pa pb pc) :=
  ps_imp (ps_asg (pe_tup (pa_cons ha (pa_cons (pe_lst pa_nil) (pa_cons hb (pa_cons hcc pa_nil h4) h3) h2) h1))
    (pg_tup hc (pgs_cons (pg_name hN hi (.inl hx) (.inr hx)) (pgs_cons (pg_name hN hj (.inl hy) (.inr hy)) (pgs_cons (pg_name hN hl (.inl hz) (.inr hz)) (pgs_cons (pg_name hN hm (.inl hu) (.inr hu)) pgs_nil))))) hs hw)
    fun D σ H ⟨g, ρ, M, F, O, P, w, A, h, hw, k1, _⟩ => by
    refine ⟨g, ρ, M, F, O, _, w, A, h, hw, fun v1 H1 F1 O1 M1 d1 A1 s1 r1 q1 => ⟨by show 0 ≤ sizeLine; decide, fun t ht => ?_⟩⟩
    have f1 := A1.f0 ht
    have o1 := A1.o0 ht
    have g1 := A1.g0 ht
    have A2 := A1.laid (o := .lst []) ht
    refine ⟨_, ρ, M1, F1, O1, _, w, A2.here, q1, (hw.mono s1).here A2, fun v2 H3 F3 O3 M3 d2 B3 s3 r2 q2 => ?_⟩
    obtain ⟨e3, f3, o3⟩ := kept_at A2 (D := t) (o := .lst []) upd_same f1 o1 B3
    have A3 := A2.there B3
    refine ⟨_, ρ, M3, F3, O3, _, w, A3.here, q2, (hw.mono (s1.trans s3)).here A3, fun v3 H4 F4 O4 M4 d3 B4 s4 r3 q3 => ?_⟩
    obtain ⟨e4, f4, o4⟩ := kept_at A3 e3 f3 o3 B4
    have A4 := A3.there B4
    refine ⟨by show 4 ≤ sizeLine; decide, fun p hp => ⟨p, _, rfl, .inl (.inl upd_same), rfl, ?_⟩⟩
    have ne : t ≠ p := fun z => by rw [z, hp] at e4; cases e4
    have A5 := ((A4.laid (o := .tup [v1, .ref t, v2, v3]) hp).put (i := i) (r1.mono (s3.trans s4))).putOwn (i := j) ((upd_ne ne).trans e4) (l := []) rfl f4 o4 g1
    exact ⟨_, _, rfl, _, _, rfl, _, _, rfl, _, _, rfl, rfl, k1 _ _ _ M4 F4 _ ((A5.put (i := l) (r2.mono s4)).put (i := m) r3) ((s1.trans s3).trans s4) q3⟩
end
end Px

set_option Elab.async false
set_option linter.all false
set_option maxRecDepth 100000
namespace Px
open PySem PySem.Spec PyProof.Rows L2
/-! # clear_from -/
def optC : Option Cut → D
  | none => .non
  | some c => .tup [prD c.1, .bl c.2]
def stepC (cl act : Bool) (x : Cut) (R : List (Cut × Cut)) : Option Cut → List (Cut × Cut) × Option Cut
  | none => (R, if act = true then (if cl = true then some x else none) else none)
  | some c => if act = true then (if cl = true then (R, some c) else (R ++ [(c, x)], none)) else (R, some c)
def piecesD (R : List (Cut × Cut)) : List D := R.map pieceD
def sp_clear_from (C : Cl) : PSp := fun ds M q _ => ar3 ds fun d l h => ∃ bs, IsBs d bs ∧ asP l fun a b => asP h fun u v => (BsOk bs ∧ bs.length ≤ 4 ∧ VR (a, b) ∧ b ≤ a ∧ szR (a, b) ∧ VR (u, v) ∧ szR (u, v)) ∧
  ∀ R, (ltR (u, v) (a, b) → R = []) → (¬ ltR (u, v) (a, b) → IsClr bs (a, b) (u, v) R) → R.length ≤ 300001 → q (.lst (piecesD R)) M
def rd_f1 (C : Cl) : PTS := (dSeq (dSet 10 (dOp fIs (dCall (sp_clash_of C) [] (dCons (dVar 0) (dCons (dVar 8) dNil))) (dC .non)))
    (dSeq (dIfS (dAnd (dTst (dVar 10)) (dAnd (dTst (dOp fIs (dVar 5) (dC .non))) (dOr (dTst (dVar 9)) (dTst (dOp fNe (dVar 6) (dVar 2)))))) (dSet 5 (dTup (dCons (dVar 6) (dCons (dVar 9) dNil)))) dNext)
    (dIfS (dAnd (dNot (dTst (dVar 10))) (dAnd (dTst (dOp fIsNot (dVar 5) (dC .non))) (dOr (dTst (dVar 9)) (dTst (dOp fNe (dVar 6) (dVar 2)))))) (dSeq (dApp 4 (dOp fAdd (dVar 5) (dTup (dCons (dVar 6) (dCons (dNotV (dVar 9)) dNil)))))
    (dSet 5 (dC .non))) dNext)))
theorem clashD_nr (a b : Int) (bs : Bs) : noRaw (clashD a b bs) = true := by
  unfold clashD
  cases firstFold a b 0 bs with
  | some x => rfl
  | none =>
    dsimp only
    unfold alikeT
    split <;> rfl
theorem clashD_is {a b : Int} (ha : 0 < a) {bs : Bs} {cl : Bool} (h : cl = true ↔ clearB a b bs = true) : isN (clashD a b bs) = cl := by
  have z : clashD a b bs = .non ↔ clearB a b bs = true := clash_clear ha bs
  cases cl with
  | true => rw [z.mpr (h.mp rfl)]; rfl
  | false =>
    have n : clashD a b bs ≠ .non := fun e => by
      have := h.mpr (z.mp e)
      cases this
    cases e : clashD a b bs <;> first | rfl | exact absurd e n
theorem prD_ne {p h : Rt} : (!eqD (prD p) (prD h)) = !decide (p = h) := by
  rw [eqD_int2]
  obtain ⟨a, b⟩ := p
  obtain ⟨c, d⟩ := h
  dsimp only
  simp only [Bool.and_true, Prod.mk.injEq, Bool.decide_and]
theorem f1_step {C : Cl} {w : PWi} {M : Mm} {P : PEnds} {B : D} {bs : Bs} {l cs' : Option Sv} {hi p r : Rt} {f cl : Bool} {R : List (Cut × Cut)} {c : Option Cut} (x7 x10 : Option Sv) (hB : IsBs B bs) (hb : BsOk bs) (hl : bs.length ≤ 4) (hr : RtOk r.1 r.2) (hcl : cl = true ↔ clearB r.1 r.2 bs = true) (hR : R.length < 1000000)
    (hP : ∀ R' c', (R', c') = stepC cl (f || !decide (p = hi)) (p, f) R c → P.nx [some (.val B), l, some (.val (prD hi)), cs', some (.own (piecesD R')), some (.val (optC c')), some (.val (prD p)), x7, some (.val (prD r)), some (.val (.bl f)), some (.val (.bl cl))] M) :
    rd_f1 C w P [some (.val B), l, some (.val (prD hi)), cs', some (.own (piecesD R)), some (.val (optC c)), some (.val (prD p)), x7, some (.val (prD r)), some (.val (.bl f)), x10] M := by
  have hP := hP _ _ rfl
  have hR2 : (piecesD R).length < 1000000 := by unfold piecesD; rw [List.length_map]; exact hR
  refine ⟨bs, hB, ⟨hb, hl, hr⟩, clashD_nr _ _ _, ?_⟩
  rw [clashD_is hr.1 hcl]
  have two : (2 : Nat) ≤ 1000000 := by decide
  have tests : ∀ g : Bool, g = !decide (p = hi) → (!eqD (prD p) (prD hi)) = g := fun g e => by rw [prD_ne, e]
  have hlen : ∀ c : Cut, [prD c.1, D.bl c.2].length + [prD p, D.bl (!f)].length ≤ 1000000 := fun c => by show (4 : Nat) ≤ 1000000; decide
  cases hg : (!decide (p = hi)) with
  | true =>
    rw [hg] at hP
    have tg := tests true hg.symm
    cases f with
    | true =>
      cases cl with
      | true => cases c with
        | none => exact ⟨rfl, ⟨two, hP⟩⟩
        | some c => exact ⟨rfl, hP⟩
      | false => cases c with
        | none => exact ⟨rfl, hP⟩
        | some c => exact ⟨rfl, trivial, two, hlen c, hR2, by
            have e : piecesD (R ++ [(c, (p, true))]) = piecesD R ++ [pieceD (c, (p, true))] := by unfold piecesD; rw [List.map_append]; rfl
            have hP : P.nx [some (.val B), l, some (.val (prD hi)), cs', some (.own (piecesD (R ++ [(c, (p, true))]))), some (.val .non), some (.val (prD p)), x7, some (.val (prD r)), some (.val (.bl true)), some (.val (.bl false))] M := hP
            rw [e] at hP
            exact hP⟩
    | false =>
      cases cl with
      | true => cases c with
        | none => exact ⟨rfl, rfl, itT tg ⟨two, hP⟩⟩
        | some c => exact ⟨rfl, hP⟩
      | false => cases c with
        | none => exact ⟨rfl, hP⟩
        | some c => exact ⟨rfl, rfl, itT tg ⟨trivial, two, hlen c, hR2, by
            have e : piecesD (R ++ [(c, (p, false))]) = piecesD R ++ [pieceD (c, (p, false))] := by unfold piecesD; rw [List.map_append]; rfl
            have hP : P.nx [some (.val B), l, some (.val (prD hi)), cs', some (.own (piecesD (R ++ [(c, (p, false))]))), some (.val .non), some (.val (prD p)), x7, some (.val (prD r)), some (.val (.bl false)), some (.val (.bl false))] M := hP
            rw [e] at hP
            exact hP⟩⟩
  | false =>
    rw [hg] at hP
    have tg := tests false hg.symm
    cases f with
    | true =>
      cases cl with
      | true => cases c with
        | none => exact ⟨rfl, ⟨two, hP⟩⟩
        | some c => exact ⟨rfl, hP⟩
      | false => cases c with
        | none => exact ⟨rfl, hP⟩
        | some c => exact ⟨rfl, trivial, two, hlen c, hR2, by
            have e : piecesD (R ++ [(c, (p, true))]) = piecesD R ++ [pieceD (c, (p, true))] := by unfold piecesD; rw [List.map_append]; rfl
            have hP : P.nx [some (.val B), l, some (.val (prD hi)), cs', some (.own (piecesD (R ++ [(c, (p, true))]))), some (.val .non), some (.val (prD p)), x7, some (.val (prD r)), some (.val (.bl true)), some (.val (.bl false))] M := hP
            rw [e] at hP
            exact hP⟩
    | false =>
      cases cl with
      | true => cases c with
        | none => exact ⟨rfl, rfl, itF tg hP⟩
        | some c => exact ⟨rfl, hP⟩
      | false => cases c with
        | none => exact ⟨rfl, hP⟩
        | some c => exact ⟨rfl, rfl, itF tg hP⟩
end Px

set_option Elab.async false
set_option linter.all false
set_option maxRecDepth 100000
namespace Px
open PySem PySem.Spec PyProof.Rows L2
theorem stepC_off {cl : Bool} {x : Cut} {R : List (Cut × Cut)} {b : Option Cut} : stepC cl false x R b = (R, b) := by cases b <;> rfl
theorem stepC_len {cl act : Bool} {x : Cut} {R : List (Cut × Cut)} {b : Option Cut} : (stepC cl act x R b).1.length ≤ R.length + 1 := by
  cases b with
  | none => exact Nat.le_succ _
  | some c =>
    cases act <;> cases cl
    · exact Nat.le_succ _
    · exact Nat.le_succ _
    · show (R ++ [(c, x)]).length ≤ _
      rw [List.length_append]
      exact Nat.le_refl _
    · exact Nat.le_succ _
theorem step_up {Pe cl : Cut → Prop} {lo x y : Cut} {R : List (Cut × Cut)} {b : Option Cut} {k : Bool} (hl : VC lo) (hx : VC x) (hy : VC y) (hlx : leO ltC lo x) (h : PSt VC ltC Pe cl lo x R b) (hxy : ltC x y) (hPe : Pe x) (hk : k = true ↔ cl x)
    (hd : ∀ d, VC d → leO ltC x d → ltC d y → (cl d ↔ cl x)) : PSt VC ltC Pe cl lo y (stepC k true x R b).1 (stepC k true x R b).2 := by
  cases k with
  | true =>
    have cx := hk.mp rfl
    cases b with
    | none => exact h.up cutO hl hx hy hlx hxy hPe _ _ (.inr (.inl ⟨rfl, rfl, rfl⟩)) fun d v1 v2 v3 => (hd d v1 v2 v3).trans ⟨fun _ => ⟨x, rfl⟩, fun _ => cx⟩
    | some c => exact h.up cutO hl hx hy hlx hxy hPe _ _ (.inl ⟨rfl, rfl⟩) fun d v1 v2 v3 => (hd d v1 v2 v3).trans ⟨fun _ => ⟨c, rfl⟩, fun _ => cx⟩
  | false =>
    have cx : ¬ cl x := fun z => by have := hk.mpr z; cases this
    cases b with
    | none => exact h.up cutO hl hx hy hlx hxy hPe _ _ (.inl ⟨rfl, rfl⟩) fun d v1 v2 v3 => (hd d v1 v2 v3).trans ⟨fun z => absurd z cx, fun ⟨c, e⟩ => by cases e⟩
    | some c => exact h.up cutO hl hx hy hlx hxy hPe _ _ (.inr (.inr ⟨c, rfl, rfl, rfl⟩)) fun d v1 v2 v3 => (hd d v1 v2 v3).trans ⟨fun z => absurd z cx, fun ⟨c, e⟩ => by cases e⟩
theorem mu_le {cs : List Int} {p : Rt} (hp : VR p) (hge : p.2 ≤ p.1) (hc : CsOk cs) : muV cs p ≤ cs.length * 1000 := by
  unfold muV
  induction cs with
  | nil => exact Nat.le_refl _
  | cons c r ih =>
    have := ih fun x hx => hc x (List.mem_cons_of_mem _ hx)
    have c1 := hc c List.mem_cons_self
    have : (timesV c p.1 p.2).toNat ≤ 1000 := by
      have z : ¬ (1001 : Int) ≤ timesV c p.1 p.2 := fun z => by
        have h1 := (times_iff (c := c) (b := p.2) hp.1).mp z
        have h2 : c * p.2 ≤ 2000 * p.1 := Int.mul_le_mul c1.2 hge (Int.le_of_lt hp.2.1) (by decide)
        have := hp.1
        omega
      omega
    simp only [List.map_cons, List.sum_cons, List.length_cons]
    omega
theorem ge_up {p q : Rt} (hp : VR p) (hq : VR q) (h : p.2 ≤ p.1) (k : ltR p q) : q.2 ≤ q.1 := by
  unfold ltR at k
  rcases Int.lt_or_le q.1 q.2 with z | z
  · have h1 := Int.mul_le_mul_of_nonneg_right h (Int.le_of_lt hq.2.1)
    have h2 := Int.mul_lt_mul_of_pos_right z hp.2.1
    have : q.2 * p.2 = p.2 * q.2 := Int.mul_comm ..
    omega
  · exact z
theorem szR_ok {p : Rt} (hp : VR p) (h : szR p) : RtOk p.1 p.2 := by
  obtain ⟨h1, h2⟩ := h
  exact ⟨hp.1, by omega, hp.2.1, by omega⟩
/-- one turn of the loop: what stands then -/
structure TurnC (bs : Bs) (cs : List Int) (l h : Rt) (o : Option Rt) (R : List (Cut × Cut)) (b : Option Cut) (m : Nat) : Prop where
  len : R.length + m ≤ 300000
  st : (∃ p, o = some p ∧ VR p ∧ p.2 ≤ p.1 ∧ szR p ∧ ¬ ltR h p ∧ ¬ ltR p l ∧ PSt VC ltC szC (clrC (wins bs)) (l, true) (p, true) R b ∧ m = 2 * muV cs p + 2) ∨
    ((∀ p, o = some p → ltR h p ∧ szR p ∧ VR p) ∧ PSt VC ltC szC (clrC (wins bs)) (l, true) (h, false) R b ∧ (ltR h l → R = [] ∧ b = none) ∧ m = 0)
theorem nlt_le {p l : Rt} (hp : VR p) (hl : VR l) (h : ¬ ltR p l) : l = p ∨ ltR l p := by
  rcases ltR_tot hl hp with z | z | z
  · exact .inr z
  · exact .inl z
  · exact absurd z h
theorem turn_next {bs : Bs} {cs : List Int} (hb : BsOk bs) (hC : ConsOf (wins bs) cs) (hc : CsOk cs) {l h p : Rt} (vl : VR l) (vh : VR h) (vp : VR p) (sh : szR h) (sp : szR p) (hge : p.2 ≤ p.1) (nh : ¬ ltR h p) (nl : ¬ ltR p l) {R : List (Cut × Cut)} {b : Option Cut} (hP : PSt VC ltC szC (clrC (wins bs)) (l, true) (p, true) R b)
    (hlen : R.length + (2 * muV cs p + 2) ≤ 300000) {k1 k2 : Bool} (h1 : k1 = true ↔ clrC (wins bs) (p, true)) (h2 : k2 = true ↔ clrC (wins bs) (p, false)) {R1 R2 : List (Cut × Cut)} {b1 b2 : Option Cut} (e1 : (R1, b1) = stepC k1 true (p, true) R b) (e2 : (R2, b2) = stepC k2 (!decide (p = h)) (p, false) R1 b1) :
    ∃ m, m < 2 * muV cs p + 2 ∧ TurnC bs cs l h (nextV cs p.1 p.2) R2 b2 m := by
  have isn := nextV_is vp hge hc
  generalize hn : nextV cs p.1 p.2 = f at isn ⊢
  have vl' : VC (l, true) := vl
  have vp' : ∀ g, VC (p, g) := fun _ => vp
  have llp : leO ltC (l, true) (p, true) := by
    rcases nlt_le vp vl nl with z | z
    · exact .inl (by rw [z])
    · exact .inr (.inl z)
  have P1 : PSt VC ltC szC (clrC (wins bs)) (l, true) (p, false) R1 b1 := by
    have := step_up vl' (vp' true) (vp' false) llp hP ltC_at sp h1 fun d v1 v2 v3 => by rw [cst_at (cl := clrC (wins bs)) vp v1 v2 v3]
    rw [← e1] at this
    exact this
  have n1 : R1.length ≤ R.length + 1 := by
    have := stepC_len (cl := k1) (act := true) (x := (p, true)) (R := R) (b := b)
    rw [← e1] at this
    exact this
  have n2 : R2.length ≤ R1.length + 1 := by
    have := stepC_len (cl := k2) (act := !decide (p = h)) (x := (p, false)) (R := R1) (b := b1)
    rw [← e2] at this
    exact this
  have nhl : ¬ ltR h l := fun z => by
    rcases nlt_le vp vl nl with y | y
    · rw [y] at z; exact nh z
    · exact nh (ltR_tr vh.2.1 vl.2.1 vp.2.1 z y)
  by_cases eh : p = h
  · rw [decide_eq_true eh] at e2
    rw [show (!true) = false from rfl, stepC_off] at e2
    cases e2
    subst eh
    refine ⟨0, by omega, by omega, .inr ⟨fun q e => ?_, P1, fun z => absurd z nhl, rfl⟩⟩
    obtain ⟨a1, a2, a3, a4, _⟩ := isn.so q e
    exact ⟨a2, ⟨by omega, by omega⟩, a1⟩
  · rw [decide_eq_false eh] at e2
    have lph : ltR p h := by
      rcases ltR_tot vp vh with z | z | z
      · exact z
      · exact absurd z eh
      · exact absurd z nh
    have lpf : leO ltC (l, true) (p, false) := .inr (cutO.le_lt llp ltC_at vl' (vp' true) (vp' false))
    have up := fun (y : Cut) (hy : VC y) (hxy : ltC (p, false) y) (k : ∀ q, f = some q → ltR y.1 q ∨ y = (q, true)) => by
      have z := step_up (y := y) vl' (vp' false) hy lpf P1 hxy sp h2 fun d v1 v2 v3 => cst_behind hb hC vp isn hy k v1 v2 v3
      rw [show (!false) = true from rfl] at e2
      rw [← e2] at z
      exact z
    have far : (∀ q, f = some q → ltR h q) → ∃ m, m < 2 * muV cs p + 2 ∧ TurnC bs cs l h f R2 b2 m := fun k => by
      refine ⟨0, by omega, by omega, .inr ⟨fun q e => ?_, up (h, false) vh (.inl lph) fun q e => .inl (k q e), fun z => absurd z nhl, rfl⟩⟩
      obtain ⟨a1, a2, a3, a4, _⟩ := isn.so q e
      exact ⟨k q e, ⟨by omega, by omega⟩, a1⟩
    cases hf : f with
    | none => rw [← hf]; exact far fun q e => by rw [hf] at e; cases e
    | some q =>
      obtain ⟨a1, a2, a3, a4, _⟩ := isn.so q hf
      by_cases hq : ltR h q
      · rw [← hf]
        exact far fun q' e => by rw [hf] at e; cases e; exact hq
      · have mu := mu_less (q := q) vp (hf ▸ isn)
        refine ⟨2 * muV cs q + 2, by omega, by omega, .inl ⟨q, rfl, a1, ge_up vp a1 hge a2, ⟨by omega, by omega⟩, hq, fun z => ?_, up (q, true) a1 (.inl a2) fun q' e => ?_, rfl⟩⟩
        · rcases nlt_le vp vl nl with y | y
          · rw [y] at z; exact ltR_irr _ (ltR_tr vp.2.1 a1.2.1 vp.2.1 a2 z)
          · exact ltR_irr _ (ltR_tr vp.2.1 vl.2.1 vp.2.1 (ltR_tr vp.2.1 a1.2.1 vl.2.1 a2 z) y)
        · rw [hf] at e; cases e; exact .inr rfl
theorem turn_end {bs : Bs} {cs : List Int} {l h : Rt} (vh : VR h) (sh : szR h) {o : Option Rt} {R : List (Cut × Cut)} {b : Option Cut} (hP : PSt VC ltC szC (clrC (wins bs)) (l, true) (h, false) R b) (z : ltR h l → R = [] ∧ b = none) :
    (ltR h l → endP R b (h, false) = []) ∧ (¬ ltR h l → IsClr bs l h (endP R b (h, false))) :=
  ⟨fun y => by obtain ⟨rfl, rfl⟩ := z y; rfl, fun _ => hP.done vh sh⟩
def rd_clear_from (C : Cl) : PTS := (dSeq (dPar4L 3 4 5 6 (dCall (sp_constants_of C) [] (dCons (dVar 0) dNil)) (dC .non) (dVar 1))
    (dSeq (dWhile (dAnd (dTst (dOp fIsNot (dVar 6) (dC .non))) (dNot (dTst (dCall (sp_is_below C) [] (dCons (dVar 2) (dCons (dVar 6) dNil)))))) (dSeq (dSet 7 (dCall (sp_next_change C) [] (dCons (dVar 3) (dCons (dVar 6) dNil))))
    (dSeq (dFor (iA (dL (dLst (dCons (dTup (dCons (dVar 6) (dCons (dC (.bl true)) dNil))) (dCons (dTup (dCons (dCall (sp_between C) [] (dCons (dVar 6) (dCons (dVar 7) dNil))) (dCons (dC (.bl false)) dNil))) dNil))))) (gTp 2 (gsCons (gNm 8) (gsCons (gNm 9) gsNil))) (dSeq (dSet 10 (dOp fIs (dCall (sp_clash_of C) [] (dCons (dVar 0) (dCons (dVar 8) dNil))) (dC .non)))
    (dSeq (dIfS (dAnd (dTst (dVar 10)) (dAnd (dTst (dOp fIs (dVar 5) (dC .non))) (dOr (dTst (dVar 9)) (dTst (dOp fNe (dVar 6) (dVar 2)))))) (dSet 5 (dTup (dCons (dVar 6) (dCons (dVar 9) dNil)))) dNext)
    (dIfS (dAnd (dNot (dTst (dVar 10))) (dAnd (dTst (dOp fIsNot (dVar 5) (dC .non))) (dOr (dTst (dVar 9)) (dTst (dOp fNe (dVar 6) (dVar 2)))))) (dSeq (dApp 4 (dOp fAdd (dVar 5) (dTup (dCons (dVar 6) (dCons (dNotV (dVar 9)) dNil)))))
    (dSet 5 (dC .non))) dNext))))
    (dSet 6 (dVar 7)))))
    (dFrz 4 (dRet (dIf (dTst (dOp fIs (dVar 5) (dC .non))) (dVar 4) (dOp fAdd (dOwn 4) (dL (dLst (dCons (dOp fAdd (dVar 5) (dTup (dCons (dVar 2) (dCons (dC (.bl true)) dNil)))) dNil)))))))))
theorem sh_clear_from (C : Cl) : Shows (sp_clear_from C) 11 (rd_clear_from C) := by
  intro ds M q e g0
  obtain ⟨d, l', h', rfl, bs, hB, g1⟩ := ar3_of g0
  obtain ⟨a, b, rfl, g2⟩ := asP_of g1
  obtain ⟨u, v, rfl, ⟨hb, hl, vl, hge, sl, vh, sh⟩, hq⟩ := asP_of g2
  have two : (2 : Nat) ≤ 1000000 := by decide
  refine ⟨bs, hB, ⟨hb, hl⟩, fun cs hc hC hlen => ?_⟩
  refine ⟨fun m ρ M' => M' = M ∧ ∃ (o : Option Rt) (R : List (Cut × Cut)) (c : Option Cut) (x7 x8 x9 x10 : Option Sv), ρ = [some (.val d), some (.val (prD (a, b))), some (.val (prD (u, v))), some (.val (intL cs)), some (.own (piecesD R)), some (.val (optC c)), some (.val (optR o)), x7, x8, x9, x10] ∧ TurnC bs cs (a, b) (u, v) o R c m, ?_, ?_⟩
  · by_cases lt : ltR (u, v) (a, b)
    · refine ⟨0, rfl, some (a, b), [], none, none, none, none, none, rfl, by decide, .inr ⟨fun p e => ?_, ⟨List.Pairwise.nil, fun p hp => (nomatch hp), fun c e => (nomatch e), fun d' v1 v2 v3 => ?_⟩, fun _ => ⟨rfl, rfl⟩, rfl⟩⟩
      · cases e; exact ⟨lt, sl, vl⟩
      · exact (cutO.asym (x := ((u, v), false)) (y := ((a, b), true)) (.inl lt) (.inr (cutO.le_lt v2 v3 vl v1 vh)) vh vl).elim
    · refine ⟨2 * muV cs (a, b) + 2, rfl, some (a, b), [], none, none, none, none, none, rfl, ?_, .inl ⟨(a, b), rfl, vl, hge, sl, lt, ltR_irr _, PSt.start cutO vl, rfl⟩⟩
      have := mu_le vl hge hc
      show 0 + _ ≤ _
      omega
  · rintro m ρ M' ⟨rfl, o, R, c, x7, x8, x9, x10, rfl, T⟩
    obtain ⟨hlen2, T⟩ := T
    have su := szR_ok vh sh
    have out : PSt VC ltC szC (clrC (wins bs)) ((a, b), true) ((u, v), false) R c → (ltR (u, v) (a, b) → R = [] ∧ c = none) → ∀ (w : PWi) (P : PEnds) (x6 x7 x8 x9 x10 : Option Sv), (∀ L, (ltR (u, v) (a, b) → L = []) → (¬ ltR (u, v) (a, b) → IsClr bs (a, b) (u, v) L) → L.length ≤ 300001 → P.rt (.lst (piecesD L)) M') →
        dFrz 4 (dRet (dIf (dTst (dOp fIs (dVar 5) (dC .non))) (dVar 4) (dOp fAdd (dOwn 4) (dL (dLst (dCons (dOp fAdd (dVar 5) (dTup (dCons (dVar 2) (dCons (dC (.bl true)) dNil)))) dNil)))))) w P [some (.val d), some (.val (prD (a, b))), some (.val (prD (u, v))), some (.val (intL cs)), some (.own (piecesD R)), some (.val (optC c)), x6, x7, x8, x9, x10] M' := by
      intro hP z w P x6 x7 x8 x9 x10 hk
      obtain ⟨t1, t2⟩ := turn_end (cs := cs) (o := o) vh sh hP z
      have hk := hk _ t1 t2 (by
        cases c with
        | none => show R.length ≤ _; omega
        | some c => show (R ++ [(c, ((u, v), false))]).length ≤ _; rw [List.length_append, List.length_singleton]; omega)
      cases c with
      | none => exact ⟨rfl, hk⟩
      | some c =>
        refine ⟨rfl, two, (by show (4 : Nat) ≤ 1000000; decide), (by show (1 : Nat) ≤ 1000000; decide), ?_, ?_⟩
        · show (piecesD R).length + 1 ≤ 1000000
          unfold piecesD
          rw [List.length_map]
          omega
        · have e : piecesD (endP R (some c) ((u, v), false)) = piecesD R ++ [pieceD (c, ((u, v), false))] := by unfold piecesD endP; rw [List.map_append]; rfl
          rw [e] at hk
          exact hk
    have fin : ∀ L, (ltR (u, v) (a, b) → L = []) → (¬ ltR (u, v) (a, b) → IsClr bs (a, b) (u, v) L) → L.length ≤ 300001 → ∃ M2, MLe M2 M' ∧ q (.lst (piecesD L)) M2 := fun L z1 z2 z3 => ⟨M', MLe.refl M', hq L z1 z2 z3⟩
    rcases T with ⟨p, rfl, vp, pge, sp, nh, nl, hP, rfl⟩ | ⟨ho, hP, z, rfl⟩
    · have sp' := szR_ok vp sp
      refine ⟨rfl, ⟨su.sa, su.sb, sp'.sa, sp'.sb⟩, ?_⟩
      have nh' : (!decide (u * p.2 < p.1 * v)) = true := by rw [decide_eq_false (show ¬ u * p.2 < p.1 * v from nh)]; rfl
      refine itT nh' ?_
      refine ⟨cs, rfl, ⟨hc, vp, pge, sp'⟩, two, nextV cs p.1 p.2, rfl, ⟨vp, sp.1, sp.2, fun q' e' => ?_⟩, fun r vr pr rq rr => ?_⟩
      · obtain ⟨a1, a2, a3, a4, _⟩ := (nextV_is vp pge hc).so q' e'
        exact ⟨a1, a2, a3, a4⟩
      · refine ⟨two, two, rfl, ?_⟩
        have wp := clear_win (a := p.1) (b := p.2) vp.1 vp.2.1 bs hb
        have wr : clearB r.1 r.2 bs = true ↔ clrC (wins bs) (p, false) := by
          rw [clear_win (a := r.1) (b := r.2) vr.1 vr.2.1 bs hb]
          refine clr_const (p := p) (r := r) vp.2.1 vr.2.1 pr (next_noCh (fun w hw => ?_) hC vp vr (nextV_is vp pge hc) rq) true
          have := wins_el hb w hw
          omega
        have R1len := stepC_len (cl := clearB p.1 p.2 bs) (act := true) (x := (p, true)) (R := R) (b := c)
        refine f1_step (C := C) (hi := (u, v)) (p := p) (r := p) (f := true) (cl := clearB p.1 p.2 bs) _ _ hB hb hl sp' Iff.rfl (by omega) fun R1 b1 e1 => ?_
        have e1 : (R1, b1) = stepC (clearB p.1 p.2 bs) true (p, true) R c := e1
        rw [← e1] at R1len
        refine ⟨rfl, ?_⟩
        refine f1_step (C := C) (hi := (u, v)) (p := p) (r := r) (f := false) (cl := clearB r.1 r.2 bs) _ _ hB hb hl rr Iff.rfl (by have : R1.length ≤ R.length + 1 := R1len; omega) fun R2 b2 e2 => ?_
        obtain ⟨m', lt, T'⟩ := turn_next hb hC hc vl vh vp sh sp pge nh nl hP hlen2 wp wr e1 e2
        exact ⟨m', lt, rfl, _, R2, b2, _, _, _, _, rfl, T'⟩
    · cases o with
      | none =>
        refine ⟨rfl, ?_⟩
        refine out hP z _ _ _ _ _ _ _ ?_
        exact fin
      | some p =>
        obtain ⟨lt, sp, vp⟩ := ho p rfl
        have sp' := szR_ok vp sp
        have lt' : (!decide (u * p.2 < p.1 * v)) = false := by rw [decide_eq_true (show u * p.2 < p.1 * v from lt)]; rfl
        refine ⟨rfl, ⟨su.sa, su.sb, sp'.sa, sp'.sb⟩, itF lt' ?_⟩
        refine out hP z _ _ _ _ _ _ _ ?_
        exact fin
end Px

set_option Elab.async false
set_option linter.all false
set_option maxRecDepth 100000
namespace Px
open PySem PySem.Spec PyProof.Rows L2
theorem win_mem {p : Int × Int} : ∀ {bs : Bs}, p ∈ bs → (⟨2 * p.1, 2 * p.2, true⟩ : Wn) ∈ wins bs
  | x :: r, h => by
    unfold wins
    rcases List.mem_cons.mp h with rfl | h
    · exact List.mem_cons_self
    · exact List.mem_cons_of_mem _ (List.mem_append_right _ (win_mem h))
/-- below the width of a band it is folded -/
theorem not_wide {bs : Bs} (hb : BsOk bs) {w : Int} (hw : IsW bs w) {c : Cut} (vc : VC c) (h : ltR c.1 (w, 1)) : ¬ clrC (wins bs) c := by
  obtain ⟨_, p, hp, rfl⟩ := hw
  obtain ⟨b1, b2, b3⟩ := hb.1 p hp
  obtain ⟨r, f⟩ := c
  obtain ⟨r0, r1, _⟩ := vc
  have r0 : 0 < r.1 := r0
  have r1 : 0 < r.2 := r1
  intro hc
  have h : r.1 * 1 < (p.2 - p.1) * r.2 := h
  have e1 := Int.mul_ediv_add_emod (p.1 * r.2) r.1
  have e2 := Int.emod_nonneg (p.1 * r.2) (show r.1 ≠ 0 by omega)
  have e3 := Int.emod_lt_of_pos (p.1 * r.2) r0
  have e4 : 0 ≤ p.1 * r.2 := Int.mul_nonneg b1 (by omega)
  have e5 : 0 ≤ p.1 * r.2 / r.1 := Int.ediv_nonneg e4 (by omega)
  have e6 : (p.2 - p.1) * r.2 = p.2 * r.2 - p.1 * r.2 := Int.sub_mul ..
  have e7 : 2 * (p.1 * r.2 / r.1 + 1) * r.1 = 2 * (r.1 * (p.1 * r.2 / r.1)) + 2 * r.1 := by grind
  have e8 : 2 * p.1 * r.2 = 2 * (p.1 * r.2) := by grind
  have e9 : 2 * p.2 * r.2 = 2 * (p.2 * r.2) := by grind
  refine hc _ (win_mem hp) (p.1 * r.2 / r.1 + 1) (by omega) ?_
  unfold inW
  dsimp only
  cases f with
  | true => rw [if_pos rfl, if_pos rfl]; omega
  | false => rw [if_neg Bool.false_ne_true]; omega
theorem ltC_true {x : Cut} {p : Rt} (h : ltC x (p, true)) : ltR x.1 p := by
  rcases h with h | ⟨_, _, h⟩
  · exact h
  · cases h
theorem leC_rt {x : Cut} {p : Rt} (h : ltR p x.1 ∨ p = x.1) : leO ltC (p, true) x := by
  rcases h with h | h
  · exact .inr (.inl h)
  · obtain ⟨r, f⟩ := x
    cases f with
    | true => exact .inl (by rw [h])
    | false => exact .inr (.inr ⟨h, rfl, rfl⟩)
theorem widen {bs : Bs} (hb : BsOk bs) {w : Int} (hw : IsW bs w) (vw : VR (w, 1)) {l h : Rt} (vl : VR l) (vh : VR h) (lw : ltR l (w, 1)) {R : List (Cut × Cut)} (h1 : ltR h (w, 1) → R = []) (h2 : ¬ ltR h (w, 1) → IsClr bs (w, 1) h R) : IsClr bs l h R := by
  have low : leO ltC (l, true) ((w, 1), true) := .inr (.inl lw)
  by_cases c : ltR h (w, 1)
  · rw [h1 c]
    refine ⟨⟨List.Pairwise.nil, fun p hp => (nomatch hp)⟩, fun p hp => (nomatch hp), fun d vd k1 k2 => ⟨fun ⟨p, hp, _⟩ => (nomatch hp), fun z => absurd z (not_wide hb hw vd ?_)⟩⟩
    rcases k2 with k2 | ⟨e, _, _⟩
    · exact ltR_tr vd.2.1 vh.2.1 vw.2.1 k2 c
    · have e : d.1 = h := e
      rw [e]; exact c
  · obtain ⟨a1, a2, a3⟩ := h2 c
    refine ⟨⟨a1.pw, fun p hp => ?_⟩, a2, fun d vd k1 k2 => ?_⟩
    · obtain ⟨v1, v2, v3, v4, v5⟩ := a1.el p hp
      exact ⟨v1, v2, v3, cutO.le_le low v4 vl vw v1, v5⟩
    · rcases cutO.tot d ((w, 1), true) vd vw with z | z | z
      · refine ⟨fun ⟨p, hp, y1, y2⟩ => ?_, fun y => absurd y (not_wide hb hw vd (ltC_true z))⟩
        obtain ⟨v1, v2, v3, v4, v5⟩ := a1.el p hp
        exact (cutO.asym z (cutO.le_le v4 y1 vw v1 vd) vd vw).elim
      · exact a3 d vd (.inl z.symm) k2
      · exact a3 d vd (.inr z) k2
theorem vr_spd {p : Rt} (h : VR p) : isSpD (prD p) = true := by
  obtain ⟨h1, h2, h3⟩ := h
  show (decide (0 ≤ p.1) && (decide (1 ≤ p.2) && decide (g0 p.1 p.2 = 1))) = true
  rw [decide_eq_true (by omega), decide_eq_true (by omega), decide_eq_true h3]
  rfl
theorem spd_vr {p : Rt} (h : isSpD (prD p) = true) (h0 : 0 < p.1) : VR p := by
  have h : (decide (0 ≤ p.1) && (decide (1 ≤ p.2) && decide (g0 p.1 p.2 = 1))) = true := h
  rw [Bool.and_eq_true, Bool.and_eq_true, decide_eq_true_eq, decide_eq_true_eq, decide_eq_true_eq] at h
  exact ⟨h0, by omega, h.2.2⟩
theorem isW_le {bs : Bs} (hb : BsOk bs) {w : Int} (hw : IsW bs w) : 1 ≤ w ∧ w ≤ 1000 := by
  obtain ⟨_, p, hp, rfl⟩ := hw
  obtain ⟨b1, b2, b3⟩ := hb.1 p hp
  omega
theorem vr_one {w : Int} (h : 1 ≤ w) : VR (w, 1) := ⟨by show 0 < w; omega, by show (0 : Int) < 1; decide, by show g0 w 1 = 1; unfold g0; simp⟩
def sp_clear_halves (C : Cl) : PSp := fun ds M q _ => ar3 ds fun d l h => ∃ bs, IsBs d bs ∧ asP l fun a b => asP h fun u v => (BsOk bs ∧ 0 < bs.length ∧ bs.length ≤ 4 ∧ VR (a, b) ∧ szR (a, b) ∧ VR (u, v) ∧ szR (u, v) ∧ ¬ ltR (u, v) (a, b)) ∧
  ∀ R, IsClr bs (a, b) (u, v) R → R.length ≤ 300001 → q (.lst (piecesD R)) M
def rd_clear_halves (C : Cl) : PTS := (dSeq (dDrop (dCall (sp_need_bands C) [] (dCons (dVar 0) dNil)))
    (dSeq (dIfS (dOr (dNot (dTst (dCall (sp_is_rate C) [] (dCons (dVar 1) dNil)))) (dOr (dNot (dTst (dCall (sp_is_speed C) [] (dCons (dVar 2) dNil)))) (dTst (dCall (sp_is_below C) [] (dCons (dVar 2) (dCons (dVar 1) dNil)))))) (dRaise (.ref C.BadStretch)) dNext)
    (dRet (dCall (sp_clear_from C) [] (dCons (dVar 0) (dCons (dCall (sp_greater C) [] (dCons (dVar 1) (dCons (dCall (sp_widest C) [] (dCons (dVar 0) dNil)) dNil))) (dCons (dVar 2) dNil)))))))
theorem sh_clear_halves (C : Cl) : Shows (sp_clear_halves C) 3 (rd_clear_halves C) := by
  intro ds M q e g0
  obtain ⟨d, l', h', rfl, bs, hB, g1⟩ := ar3_of g0
  obtain ⟨a, b, rfl, g2⟩ := asP_of g1
  obtain ⟨u, v, rfl, ⟨hb, h0, hl, vl, sl, vh, sh, hlh⟩, hq⟩ := asP_of g2
  have ra := szR_ok vl sl
  have ru := szR_ok vh sh
  have nb : decide (u * b < a * v) = false := decide_eq_false hlh
  have sp1 : isSpD (.tup [.int u, .int v]) = true := vr_spd (p := (u, v)) vh
  refine ⟨bs, hB, ⟨hb, hl, h0⟩, ⟨vr_spd (p := (a, b)) vl, vl.1⟩, rfl, rfl, ?_⟩
  rw [sp1]
  refine ⟨⟨ru.sa, ru.sb, ra.sa, ra.sb⟩, itF nb ⟨bs, hB, ⟨hb, h0, hl⟩, fun w hw => ?_⟩⟩
  obtain ⟨w1, w2⟩ := isW_le hb hw
  have vw := vr_one w1
  have s1 : Sz 1 := sz_lit
  refine ⟨⟨ra.sa, ra.sb, Sz.of (by omega) (by omega), s1⟩, ?_⟩
  by_cases c : a * 1 < w * b
  · rintro d' rfl
    rw [if_pos c]
    refine ⟨bs, hB, ⟨hb, hl, vw, by omega, ⟨by show w ≤ 10 ^ 25; omega, by show (1 : Int) ≤ 10 ^ 25; decide⟩, vh, sh⟩, fun R r1 r2 r3 => ⟨M, MLe.refl M, hq R (widen hb hw vw vl vh c r1 r2) r3⟩⟩
  · rintro d' rfl
    rw [if_neg c]
    have hba : b ≤ a := by
      have := Int.mul_le_mul_of_nonneg_right w1 (Int.le_of_lt vl.2.1)
      have c' : w * b ≤ a := by omega
      have : 1 * b ≤ w * b := this
      omega
    exact ⟨bs, hB, ⟨hb, hl, vl, hba, sl, vh, sh⟩, fun R r1 r2 r3 => ⟨M, MLe.refl M, hq R (r2 hlh) r3⟩⟩
end Px

set_option Elab.async false
set_option linter.all false
set_option maxRecDepth 100000
namespace Px
open PySem PySem.Spec PyProof.Rows L2
/-! # least_clear -/
def sp_least_clear (C : Cl) : PSp := fun ds M q _ => ar2 ds fun d w => ∃ bs, IsBs d bs ∧ asP w fun a b => (BsOk bs ∧ 0 < bs.length ∧ bs.length ≤ 4 ∧ VR (a, b) ∧ szR (a, b)) ∧
  ∀ c : Cut, VC c → szC c → leO ltC ((a, b), true) c → clrC (wins bs) c → (∀ d, VC d → leO ltC ((a, b), true) d → ltC d c → ¬ clrC (wins bs) d) → q (.tup [prD c.1, .bl c.2]) M
def rd_least_clear (C : Cl) : PTS := (dSeq (dDrop (dCall (sp_need_bands C) [] (dCons (dVar 0) dNil)))
    (dSeq (dDrop (dCall (sp_need_rate C) [] (dCons (dVar 1) dNil)))
    (dSeq (dPar 2 3 (dCons (dCall (sp_constants_of C) [] (dCons (dVar 0) dNil)) (dCons (dCall (sp_greater C) [] (dCons (dVar 1) (dCons (dCall (sp_widest C) [] (dCons (dVar 0) dNil)) dNil))) dNil)))
    (dSeq (dWhile (dTst (dOp fIsNot (dCall (sp_clash_of C) [] (dCons (dVar 0) (dCons (dVar 3) dNil))) (dC .non))) (dSeq (dSet 4 (dCall (sp_next_change C) [] (dCons (dVar 2) (dCons (dVar 3) dNil))))
    (dSeq (dIfS (dTst (dOp fIs (dCall (sp_clash_of C) [] (dCons (dVar 0) (dCons (dCall (sp_between C) [] (dCons (dVar 3) (dCons (dVar 4) dNil))) dNil))) (dC .non))) (dRet (dTup (dCons (dVar 3) (dCons (dC (.bl false)) dNil)))) dNext)
    (dSet 3 (dVar 4)))))
    (dRet (dTup (dCons (dVar 3) (dCons (dC (.bl true)) dNil))))))))
/-- far beyond all bands are clear -/
theorem clear_far {bs : Bs} {cs : List Int} (hb : BsOk bs) (hC : ConsOf (wins bs) cs) {p : Rt} (vp : VR p) (h : IsNext cs p none) : clrC (wins bs) (p, false) := by
  intro w hw n hn hin
  have := wins_el hb w hw
  unfold inW at hin
  rw [if_neg Bool.false_ne_true] at hin
  dsimp only at hin
  exact h.no rfl w.hi ((hC _).mpr ⟨by omega, w, hw, .inr rfl⟩) n hn hin.2
structure LeastC (bs : Bs) (cs : List Int) (l p : Rt) : Prop where
  vp : VR p
  ge : p.2 ≤ p.1
  sz : szR p
  le : leO ltC (l, true) (p, true)
  no : ∀ d, VC d → leO ltC (l, true) d → ltC d (p, true) → ¬ clrC (wins bs) d
theorem least_at {bs : Bs} {cs : List Int} (hb : BsOk bs) {l p : Rt} (T : LeastC bs cs l p) (n1 : ¬ clrC (wins bs) (p, true)) : ∀ d, VC d → leO ltC (l, true) d → ltC d (p, false) → ¬ clrC (wins bs) d := by
  intro d vd k1 k2
  rcases cutO.tot d (p, true) vd T.vp with z | z | z
  · exact T.no d vd k1 z
  · rw [z]; exact n1
  · rw [cst_at (cl := clrC (wins bs)) T.vp vd (.inr z) k2]; exact n1
theorem least_next {bs : Bs} {cs : List Int} (hb : BsOk bs) (hC : ConsOf (wins bs) cs) (hc : CsOk cs) {l p : Rt} (vl : VR l) (T : LeastC bs cs l p) (n1 : ¬ clrC (wins bs) (p, true)) (n2 : ¬ clrC (wins bs) (p, false)) :
    ∃ q, nextV cs p.1 p.2 = some q ∧ muV cs q < muV cs p ∧ LeastC bs cs l q := by
  have isn := nextV_is T.vp T.ge hc
  cases hn : nextV cs p.1 p.2 with
  | none => rw [hn] at isn; exact absurd (clear_far hb hC T.vp isn) n2
  | some q =>
    have isn' := isn
    rw [hn] at isn'
    obtain ⟨a1, a2, a3, a4, _⟩ := isn.so q hn
    refine ⟨q, rfl, mu_less T.vp isn', a1, ge_up T.vp a1 T.ge a2, ⟨by omega, by omega⟩, cutO.le_le T.le (.inr (.inl a2)) vl T.vp a1, fun d vd k1 k2 => ?_⟩
    rcases cutO.tot d (p, false) vd T.vp with z | z | z
    · exact least_at hb T n1 d vd k1 z
    · rw [z]; exact n2
    · rw [cst_behind hb hC T.vp isn a1 (y := (q, true)) (fun q' e => by rw [hn] at e; cases e; exact .inr rfl) vd (.inr z) k2]; exact n2
theorem sh_least_clear (C : Cl) : Shows (sp_least_clear C) 5 (rd_least_clear C) := by
  intro ds M q e g0
  obtain ⟨d, w', rfl, bs, hB, g1⟩ := ar2_of g0
  obtain ⟨a, b, rfl, ⟨hb, h0, hl, vl, sl⟩, hq⟩ := asP_of g1
  have two : (2 : Nat) ≤ 1000000 := by decide
  have ra := szR_ok vl sl
  have s1 : Sz 1 := sz_lit
  refine ⟨bs, hB, ⟨hb, hl, h0⟩, ⟨vr_spd (p := (a, b)) vl, vl.1⟩, bs, hB, ⟨hb, hl⟩, fun cs hc hC hlen => ⟨bs, hB, ⟨hb, h0, hl⟩, fun w hw => ?_⟩⟩
  obtain ⟨w1, w2⟩ := isW_le hb hw
  have vw := vr_one w1
  refine ⟨⟨ra.sa, ra.sb, Sz.of (by omega) (by omega), s1⟩, fun g eg => ?_⟩
  have main : ∀ p0 : Rt, LeastC bs cs (a, b) p0 → dWhile (dTst (dOp fIsNot (dCall (sp_clash_of C) [] (dCons (dVar 0) (dCons (dVar 3) dNil))) (dC .non))) (dSeq (dSet 4 (dCall (sp_next_change C) [] (dCons (dVar 2) (dCons (dVar 3) dNil))))
    (dSeq (dIfS (dTst (dOp fIs (dCall (sp_clash_of C) [] (dCons (dVar 0) (dCons (dCall (sp_between C) [] (dCons (dVar 3) (dCons (dVar 4) dNil))) dNil))) (dC .non))) (dRet (dTup (dCons (dVar 3) (dCons (dC (.bl false)) dNil)))) dNext)
    (dSet 3 (dVar 4)))) (fun cls fs _ M' => ∃ M2, MLe M2 M' ∧ e cls fs M2) { nx := fun ρ M' => dRet (dTup (dCons (dVar 3) (dCons (dC (.bl true)) dNil))) (fun cls fs _ M' => ∃ M2, MLe M2 M' ∧ e cls fs M2) { nx := fun _ M' => ∃ M2, MLe M2 M' ∧ q .non M2, rt := fun d M' => ∃ M2, MLe M2 M' ∧ q d M2 } ρ M', rt := fun d M' => ∃ M2, MLe M2 M' ∧ q d M2 } [some (.val d), some (.val (prD (a, b))), some (.val (intL cs)), some (.val (prD p0)), none] M := by
    intro p0 T0
    refine ⟨fun m ρ M' => M' = M ∧ ∃ (p : Rt) (x4 : Option Sv), ρ = [some (.val d), some (.val (prD (a, b))), some (.val (intL cs)), some (.val (prD p)), x4] ∧ LeastC bs cs (a, b) p ∧ m = muV cs p, ⟨_, rfl, p0, none, rfl, T0, rfl⟩, ?_⟩
    rintro m ρ M' ⟨rfl, p, x4, rfl, T, rfl⟩
    have rp := szR_ok T.vp T.sz
    have wp := clear_win (a := p.1) (b := p.2) T.vp.1 T.vp.2.1 bs hb
    refine ⟨bs, hB, ⟨hb, hl, rp⟩, clashD_nr _ _ _, ?_⟩
    rw [clashD_is rp.1 (cl := clearB p.1 p.2 bs) Iff.rfl]
    cases hcl : clearB p.1 p.2 bs with
    | true => exact ⟨two, M', MLe.refl M', hq (p, true) T.vp T.sz T.le (wp.mp hcl) T.no⟩
    | false =>
      have n1 : ¬ clrC (wins bs) (p, true) := fun z => by rw [wp.mpr z] at hcl; cases hcl
      have isn := nextV_is T.vp T.ge hc
      refine ⟨cs, rfl, ⟨hc, T.vp, T.ge, rp⟩, nextV cs p.1 p.2, rfl, ⟨T.vp, T.sz.1, T.sz.2, fun q' e' => ?_⟩, fun r vr pr rq rr => ?_⟩
      · obtain ⟨a1, a2, a3, a4, _⟩ := isn.so q' e'
        exact ⟨a1, a2, a3, a4⟩
      · have wr : clearB r.1 r.2 bs = true ↔ clrC (wins bs) (p, false) := by
          rw [clear_win (a := r.1) (b := r.2) vr.1 vr.2.1 bs hb]
          refine clr_const (p := p) (r := r) T.vp.2.1 vr.2.1 pr (next_noCh (fun w hw => ?_) hC T.vp vr isn rq) true
          have := wins_el hb w hw
          omega
        refine ⟨bs, hB, ⟨hb, hl, rr⟩, clashD_nr _ _ _, ?_⟩
        rw [clashD_is rr.1 (cl := clearB r.1 r.2 bs) Iff.rfl]
        cases hcl2 : clearB r.1 r.2 bs with
        | true => exact ⟨two, M', MLe.refl M', hq (p, false) T.vp T.sz (cutO.le_le T.le (.inr ltC_at) vl T.vp T.vp) (wr.mp hcl2) (least_at hb T n1)⟩
        | false =>
          obtain ⟨q', e', mu, T'⟩ := least_next hb hC hc vl T n1 fun z => by rw [wr.mpr z] at hcl2; cases hcl2
          refine ⟨_, mu, rfl, q', some (.val (optR (some q'))), ?_, T', rfl⟩
          rw [e']
          rfl
  by_cases c : a * 1 < w * b
  · rw [if_pos c] at eg
    subst eg
    exact main (w, 1) ⟨vw, by omega, ⟨by show w ≤ 10 ^ 25; omega, by show (1 : Int) ≤ 10 ^ 25; decide⟩, .inr (.inl c), fun d vd k1 k2 => not_wide hb hw vd (ltC_true k2)⟩
  · rw [if_neg c] at eg
    subst eg
    have hba : b ≤ a := by
      have := Int.mul_le_mul_of_nonneg_right w1 (Int.le_of_lt vl.2.1)
      have c' : w * b ≤ a := by omega
      have : 1 * b ≤ w * b := this
      omega
    exact main (a, b) ⟨vl, hba, sl, .inl rfl, fun d vd k1 k2 => (cutO.asym k2 k1 vd vl).elim⟩
end Px

set_option Elab.async false
set_option linter.all false
set_option maxRecDepth 100000
namespace Px
open PySem PySem.Spec PyProof.Rows L2
/-! # one band alone -/
def flR (h : Int) (fr : Rt) (n : Int) : Rt := if (lowR h n).1 * fr.2 < fr.1 * (lowR h n).2 then fr else lowR h n
def rf0 (l : Int) (la : Rt) (n : Int) : Rt := if 1 < n then lowR l (n - 1) else la
def rfR (l : Int) (la : Rt) (n : Int) : Rt := if la.1 * (rf0 l la n).2 < (rf0 l la n).1 * la.2 then la else rf0 l la n
def pcR (l h : Int) (fr la : Rt) (n : Int) : List (Cut × Cut) := if (rfR l la n).1 * (flR h fr n).2 < (flR h fr n).1 * (rfR l la n).2 then [] else [((flR h fr n, true), (rfR l la n, false))]
def dueR (l h : Int) (fr la : Rt) : Nat → List (Cut × Cut)
  | 0 => []
  | n + 1 => pcR l h fr la (n + 1 : Nat) ++ dueR l h fr la n
theorem dueR_mem {l h : Int} {fr la : Rt} {p : Cut × Cut} : ∀ {N : Nat}, p ∈ dueR l h fr la N ↔ ∃ n : Nat, 1 ≤ n ∧ n ≤ N ∧ p ∈ pcR l h fr la (n : Nat)
  | 0 => ⟨fun h => (nomatch h), fun ⟨n, h1, h2, _⟩ => by omega⟩
  | N + 1 => by
    show p ∈ pcR l h fr la (N + 1 : Nat) ++ dueR l h fr la N ↔ _
    rw [List.mem_append, dueR_mem]
    constructor
    · rintro (z | ⟨n, h1, h2, z⟩)
      · exact ⟨N + 1, by omega, Nat.le_refl _, z⟩
      · exact ⟨n, h1, by omega, z⟩
    · rintro ⟨n, h1, h2, z⟩
      by_cases e : n = N + 1
      · rw [e] at z; exact .inl z
      · exact .inr ⟨n, h1, by omega, z⟩
def leR (p q : Rt) : Prop := p.1 * q.2 ≤ q.1 * p.2
theorem leR_iff {p q : Rt} : leR p q ↔ ¬ ltR q p := by unfold leR ltR; omega
theorem leR_tr {p q r : Rt} (hp : 0 < p.2) (hq : 0 < q.2) (hr : 0 < r.2) (h : leR p q) (k : leR q r) : leR p r := by
  unfold leR at *
  refine Int.le_of_mul_le_mul_left ?_ hq
  have h1 := Int.mul_le_mul_of_nonneg_right h (Int.le_of_lt hr)
  have h2 := Int.mul_le_mul_of_nonneg_right k (Int.le_of_lt hp)
  have e1 : q.2 * (p.1 * r.2) = p.1 * q.2 * r.2 := by grind
  have e2 : q.1 * p.2 * r.2 = q.1 * r.2 * p.2 := by grind
  have e3 : r.1 * q.2 * p.2 = q.2 * (r.1 * p.2) := by grind
  omega
theorem lt_leR {p q r : Rt} (hp : 0 < p.2) (hq : 0 < q.2) (hr : 0 < r.2) (h : ltR p q) (k : leR q r) : ltR p r := by
  unfold leR ltR at *
  refine mul_can hq ?_
  have h1 := Int.mul_lt_mul_of_pos_right h hr
  have h2 := Int.mul_le_mul_of_nonneg_right k (Int.le_of_lt hp)
  have e1 : q.2 * (p.1 * r.2) = p.1 * q.2 * r.2 := by grind
  have e2 : q.1 * p.2 * r.2 = q.1 * r.2 * p.2 := by grind
  have e3 : r.1 * q.2 * p.2 = q.2 * (r.1 * p.2) := by grind
  omega
theorem le_ltR {p q r : Rt} (hp : 0 < p.2) (hq : 0 < q.2) (hr : 0 < r.2) (h : leR p q) (k : ltR q r) : ltR p r := by
  unfold leR ltR at *
  refine mul_can hq ?_
  have h1 := Int.mul_le_mul_of_nonneg_right h (Int.le_of_lt hr)
  have h2 := Int.mul_lt_mul_of_pos_right k hp
  have e1 : q.2 * (p.1 * r.2) = p.1 * q.2 * r.2 := by grind
  have e2 : q.1 * p.2 * r.2 = q.1 * r.2 * p.2 := by grind
  have e3 : r.1 * q.2 * p.2 = q.2 * (r.1 * p.2) := by grind
  omega
theorem leR_self (p : Rt) : leR p p := Int.le_refl _
theorem ltR_le {p q : Rt} (h : ltR p q) : leR p q := Int.le_of_lt h
theorem leR_cases {p q : Rt} (hp : VR p) (hq : VR q) (h : leR p q) : p = q ∨ ltR p q := by
  rcases ltR_tot hp hq with z | z | z
  · exact .inr z
  · exact .inl z
  · exact absurd z (leR_iff.mp h)
/-- a quotient in lowest terms against a rate -/
theorem low_le {x y : Int} (hx : 0 < x) (hy : 0 < y) {r : Rt} (hr : VR r) : leR (lowR x y) r ↔ x * r.2 ≤ r.1 * y := by
  obtain ⟨v, e, _⟩ := lowR_spec hx hy
  unfold leR
  rw [sc_le (k := y) hy, sc_le (x := x * r.2) (k := (lowR x y).2) v.2.1]
  rw [show (lowR x y).1 * r.2 * y = (lowR x y).1 * y * r.2 by grind, ← e, show x * (lowR x y).2 * r.2 = x * r.2 * (lowR x y).2 by grind, show r.1 * (lowR x y).2 * y = r.1 * y * (lowR x y).2 by grind]
theorem le_low {x y : Int} (hx : 0 < x) (hy : 0 < y) {r : Rt} (hr : VR r) : leR r (lowR x y) ↔ r.1 * y ≤ x * r.2 := by
  obtain ⟨v, e, _⟩ := lowR_spec hx hy
  unfold leR
  rw [sc_le (k := y) hy, sc_le (x := r.1 * y) (k := (lowR x y).2) v.2.1]
  rw [show (lowR x y).1 * r.2 * y = (lowR x y).1 * y * r.2 by grind, ← e, show x * (lowR x y).2 * r.2 = x * r.2 * (lowR x y).2 by grind, show r.1 * (lowR x y).2 * y = r.1 * y * (lowR x y).2 by grind]
theorem lt_low {x y : Int} (hx : 0 < x) (hy : 0 < y) {r : Rt} (hr : VR r) : ltR r (lowR x y) ↔ r.1 * y < x * r.2 := by
  have := low_le hx hy hr
  rw [leR_iff] at this
  constructor
  · intro h
    rcases Int.lt_or_le (r.1 * y) (x * r.2) with z | z
    · exact z
    · exact absurd h (this.mpr z)
  · intro h
    by_cases z : ltR r (lowR x y)
    · exact z
    · have := this.mp z; omega
section
variable {l h : Int} {fr la : Rt} {n : Int}
theorem flR_is (hh : 0 < h) (hn : 0 < n) (vf : VR fr) : VR (flR h fr n) ∧ leR fr (flR h fr n) ∧ leR (lowR h n) (flR h fr n) ∧ ∀ r, VR r → leR fr r → (leR (flR h fr n) r ↔ h * r.2 ≤ n * r.1) := by
  obtain ⟨v, e, _⟩ := lowR_spec hh hn
  have key : ∀ r, VR r → (leR (lowR h n) r ↔ h * r.2 ≤ n * r.1) := fun r hr => by rw [low_le hh hn hr, Int.mul_comm n]
  unfold flR
  by_cases c : (lowR h n).1 * fr.2 < fr.1 * (lowR h n).2
  · rw [if_pos c]
    have c : ltR (lowR h n) fr := c
    exact ⟨vf, leR_self _, ltR_le c, fun r hr k => ⟨fun _ => (key r hr).mp (leR_tr v.2.1 vf.2.1 hr.2.1 (ltR_le c) k), fun _ => k⟩⟩
  · rw [if_neg c]
    have c : ¬ ltR (lowR h n) fr := c
    exact ⟨v, leR_iff.mpr c, leR_self _, fun r hr _ => key r hr⟩
theorem rf0_v (hl : 1 < n → 0 < l) (va : VR la) : VR (rf0 l la n) := by
  unfold rf0
  by_cases c : 1 < n
  · rw [if_pos c]; exact (lowR_spec (hl c) (by omega)).1
  · rw [if_neg c]; exact va
theorem rfR_is (hl : 1 < n → 0 < l) (va : VR la) : VR (rfR l la n) ∧ leR (rfR l la n) la ∧ leR (rfR l la n) (rf0 l la n) ∧
    (∀ r, VR r → leR r la → (leR r (rfR l la n) ↔ (1 < n → (n - 1) * r.1 ≤ l * r.2))) ∧ ∀ r, VR r → ltR r la → (ltR r (rfR l la n) ↔ (1 < n → (n - 1) * r.1 < l * r.2)) := by
  have v0 := rf0_v hl va
  have k1 : ∀ r, VR r → leR r la → (leR r (rf0 l la n) ↔ (1 < n → (n - 1) * r.1 ≤ l * r.2)) := fun r hr k => by
    unfold rf0
    by_cases c : 1 < n
    · rw [if_pos c, le_low (hl c) (by omega) hr, Int.mul_comm r.1]
      exact ⟨fun z _ => z, fun z => z c⟩
    · rw [if_neg c]
      exact ⟨fun _ z => absurd z c, fun _ => k⟩
  have k2 : ∀ r, VR r → ltR r la → (ltR r (rf0 l la n) ↔ (1 < n → (n - 1) * r.1 < l * r.2)) := fun r hr k => by
    unfold rf0
    by_cases c : 1 < n
    · rw [if_pos c, lt_low (hl c) (by omega) hr, Int.mul_comm r.1]
      exact ⟨fun z _ => z, fun z => z c⟩
    · rw [if_neg c]
      exact ⟨fun _ z => absurd z c, fun _ => k⟩
  unfold rfR
  by_cases c : la.1 * (rf0 l la n).2 < (rf0 l la n).1 * la.2
  · rw [if_pos c]
    have c : ltR la (rf0 l la n) := c
    exact ⟨va, leR_self _, ltR_le c, fun r hr k => ⟨fun _ => (k1 r hr k).mp (leR_tr hr.2.1 va.2.1 v0.2.1 k (ltR_le c)), fun _ => k⟩, fun r hr k => ⟨fun _ => (k2 r hr k).mp (ltR_tr hr.2.1 va.2.1 v0.2.1 k c), fun _ => k⟩⟩
  · rw [if_neg c]
    have c : ¬ ltR la (rf0 l la n) := c
    exact ⟨v0, leR_iff.mpr c, leR_self _, k1, k2⟩
theorem pcR_mem {p : Cut × Cut} : p ∈ pcR l h fr la n ↔ p = ((flR h fr n, true), (rfR l la n, false)) ∧ leR (flR h fr n) (rfR l la n) := by
  unfold pcR
  rw [leR_iff]
  by_cases c : (rfR l la n).1 * (flR h fr n).2 < (flR h fr n).1 * (rfR l la n).2
  · rw [if_pos c]
    exact ⟨fun z => (nomatch z), fun z => absurd c z.2⟩
  · rw [if_neg c, List.mem_singleton]
    exact ⟨fun z => ⟨z, c⟩, fun z => z.1⟩
end
theorem clr_one {l h : Int} {r : Rt} {f : Bool} : clrC (wins [(l, h)]) (r, f) ↔ ∀ n : Int, 1 ≤ n → if f = true then ¬ (l * r.2 < n * r.1 ∧ n * r.1 < h * r.2) else ¬ (l * r.2 ≤ n * r.1 ∧ n * r.1 < h * r.2) := by
  have e : wins [(l, h)] = [⟨2 * l, 2 * h, true⟩] := rfl
  rw [e, clr_cons]
  have key : ∀ n : Int, (¬ inW ⟨2 * l, 2 * h, true⟩ (r, f) n) ↔ if f = true then ¬ (l * r.2 < n * r.1 ∧ n * r.1 < h * r.2) else ¬ (l * r.2 ≤ n * r.1 ∧ n * r.1 < h * r.2) := fun n => by
    have e1 : 2 * l * r.2 = 2 * (l * r.2) := by grind
    have e2 : 2 * h * r.2 = 2 * (h * r.2) := by grind
    have e3 : 2 * n * r.1 = 2 * (n * r.1) := by grind
    unfold inW
    dsimp only
    rw [e1, e2, e3]
    cases f with
    | true => rw [if_pos rfl, if_pos rfl, if_pos rfl]; omega
    | false => rw [if_neg Bool.false_ne_true, if_neg Bool.false_ne_true]; omega
  constructor
  · exact fun z n hn => (key n).mp (z.1 n hn)
  · exact fun z => ⟨fun n hn => (key n).mpr (z n hn), clr_nil⟩
theorem due_clr {l h : Int} {fr la : Rt} (h0 : 0 ≤ l) (hlh : l < h) (hh : h ≤ 1000) (vf : VR fr) (va : VR la) (sf : szR fr) (sa : szR la) : IsClr [(l, h)] fr la (dueR l h fr la (h / (h - l)).toNat) := by
  have N0 : 0 ≤ h / (h - l) := Int.ediv_nonneg (by omega) (by omega)
  have hN : ((h / (h - l)).toNat : Int) = h / (h - l) := by omega
  have hN1 : h / (h - l) ≤ h := Int.ediv_le_self _ (by omega)
  have lpos : ∀ n : Int, n ≤ h / (h - l) → 1 < n → 0 < l := fun n hn h1 => by
    have := (Int.le_ediv_iff_mul_le (show 0 < h - l by omega)).mp (show (2 : Int) ≤ h / (h - l) by omega)
    omega
  have el : ∀ p ∈ dueR l h fr la (h / (h - l)).toNat, ∃ n : Int, 1 ≤ n ∧ n ≤ h / (h - l) ∧ p = ((flR h fr n, true), (rfR l la n, false)) ∧ leR (flR h fr n) (rfR l la n) := fun p hp => by
    obtain ⟨n, h1, h2, z⟩ := dueR_mem.mp hp
    rw [pcR_mem] at z
    exact ⟨n, by omega, by omega, z⟩
  have szs : ∀ x n : Int, 0 < x → x ≤ 1000 → 0 < n → n ≤ 1000 → szR (lowR x n) := fun x n x0 x1 n0 n1 => by
    obtain ⟨_, _, a, b, _⟩ := lowR_spec x0 n0
    exact ⟨by omega, by omega⟩
  have sfl : ∀ n : Int, 1 ≤ n → n ≤ h / (h - l) → szR (flR h fr n) := fun n h1 h2 => by
    unfold flR
    split
    · exact sf
    · exact szs h n (by omega) hh (by omega) (by omega)
  have srf : ∀ n : Int, 1 ≤ n → n ≤ h / (h - l) → szR (rfR l la n) := fun n h1 h2 => by
    unfold rfR
    split
    · exact sa
    · unfold rf0
      by_cases c : 1 < n
      · rw [if_pos c]; exact szs l (n - 1) (lpos n h2 c) (by omega) (by omega) (by omega)
      · rw [if_neg c]; exact sa
  refine ⟨⟨?_, fun p hp => ?_⟩, fun p hp => ?_, fun d vd k1 k2 => ?_⟩
  · -- ascending
    have gen : ∀ N : Nat, (N : Int) ≤ h / (h - l) → (dueR l h fr la N).Pairwise fun p q => ltC p.2 q.1 := by
      intro N
      induction N with
      | zero => intro _; exact List.Pairwise.nil
      | succ N ih =>
        intro hle
        refine List.pairwise_append.mpr ⟨?_, ih (by omega), fun p hp q hq => ?_⟩
        · unfold pcR
          split
          · exact List.Pairwise.nil
          · exact List.pairwise_singleton _ _
        · obtain ⟨m, m1, m2, hq⟩ := dueR_mem.mp hq
          rw [pcR_mem] at hp hq
          rw [hp.1, hq.1]
          refine .inl ?_
          have c : (1 : Int) < (N + 1 : Nat) := by omega
          have l0 := lpos _ hle c
          obtain ⟨v1, _, v3, _⟩ := rfR_is (l := l) (la := la) (n := (N + 1 : Nat)) (fun _ => l0) va
          obtain ⟨w1, _, w3, _⟩ := flR_is (h := h) (fr := fr) (n := (m : Nat)) (by omega) (by omega) vf
          have v0 := rf0_v (l := l) (la := la) (n := (N + 1 : Nat)) (fun _ => l0) va
          have b := (lowR_spec (x := h) (y := (m : Int)) (by omega) (by omega)).1
          refine le_ltR v1.2.1 v0.2.1 w1.2.1 v3 (lt_leR v0.2.1 b.2.1 w1.2.1 ?_ w3)
          rw [lt_low (by omega) (by omega) v0]
          unfold rf0
          rw [if_pos c]
          obtain ⟨_, e, _⟩ := lowR_spec (x := l) (y := ((N + 1 : Nat) : Int) - 1) l0 (by omega)
          have p2 := (lowR_spec (x := l) (y := ((N + 1 : Nat) : Int) - 1) l0 (by omega)).1.2.1
          generalize lowR l (((N + 1 : Nat) : Int) - 1) = g at e p2 ⊢
          refine mul_can (show (0 : Int) < N by omega) ?_
          have e1 : ((N + 1 : Nat) : Int) - 1 = N := by omega
          rw [e1] at e
          have e2 : (N : Int) * (g.1 * m) = g.1 * N * m := by grind
          rw [e2, ← e]
          have a1 : l * m ≤ l * N := Int.mul_le_mul_of_nonneg_left (by omega) h0
          have a2 : l * N < h * N := Int.mul_lt_mul_of_pos_right hlh (by omega)
          have a3 : l * m * g.2 < h * N * g.2 := Int.mul_lt_mul_of_pos_right (by omega) p2
          have e3 : l * g.2 * m = l * m * g.2 := by grind
          have e4 : (N : Int) * (h * g.2) = h * N * g.2 := by grind
          omega
    exact gen _ (by omega)
  · obtain ⟨n, h1, h2, rfl, k⟩ := el p hp
    obtain ⟨v1, v2, _⟩ := rfR_is (l := l) (la := la) (n := n) (lpos n h2) va
    obtain ⟨w1, w2, _⟩ := flR_is (h := h) (fr := fr) (n := n) (by omega) (by omega) vf
    refine ⟨w1, v1, ?_, ?_, ?_⟩
    · rcases leR_cases w1 v1 k with z | z
      · exact .inr ⟨z, rfl, rfl⟩
      · exact .inl z
    · rcases leR_cases vf w1 w2 with z | z
      · exact .inl (by rw [← z])
      · exact .inr (.inl z)
    · rcases leR_cases v1 va v2 with z | z
      · exact .inl (by rw [z])
      · exact .inr (.inl z)
  · obtain ⟨n, h1, h2, rfl, k⟩ := el p hp
    exact ⟨sfl n h1 h2, srf n h1 h2⟩
  · obtain ⟨r, f⟩ := d
    have vr : VR r := vd
    have fr_r : leR fr r := by
      rcases k1 with z | z | ⟨z, _, _⟩
      · cases z; exact leR_self _
      · exact ltR_le z
      · have z : fr = r := z
        rw [z]; exact leR_self _
    have r_la : leR r la ∧ (f = false → ltR r la) := by
      rcases k2 with z | ⟨z, z2, _⟩
      · exact ⟨ltR_le z, fun _ => z⟩
      · have z : r = la := z
        have z2 : f = true := z2
        exact ⟨by rw [z]; exact leR_self _, fun e => by rw [e] at z2; cases z2⟩
    rw [clr_one]
    constructor
    · rintro ⟨p, hp, y1, y2⟩ k hk
      obtain ⟨n, h1, h2, rfl, z⟩ := el p hp
      obtain ⟨v1, v2, v3, v4, v5⟩ := rfR_is (l := l) (la := la) (n := n) (lpos n h2) va
      obtain ⟨w1, w2, w3, w4⟩ := flR_is (h := h) (fr := fr) (n := n) (by omega) (by omega) vf
      have a1 : h * r.2 ≤ n * r.1 := (w4 r vr fr_r).mp (by
        rcases y1 with y | y | ⟨y, _, _⟩
        · cases y; exact leR_self _
        · exact ltR_le y
        · have y : flR h fr n = r := y
          rw [y]; exact leR_self _)
      have up : n ≤ k → h * r.2 ≤ k * r.1 := fun hnk => by
        have := Int.mul_le_mul_of_nonneg_right hnk (Int.le_of_lt vr.1)
        omega
      have dn : k < n → k * r.1 ≤ (n - 1) * r.1 := fun hnk => Int.mul_le_mul_of_nonneg_right (by omega) (Int.le_of_lt vr.1)
      cases f with
      | true =>
        rw [if_pos rfl]
        rintro ⟨b1, b2⟩
        have a2 : 1 < n → (n - 1) * r.1 ≤ l * r.2 := (v4 r vr r_la.1).mp (by
          rcases y2 with y | ⟨y, _, _⟩
          · exact ltR_le y
          · have y : r = rfR l la n := y
            rw [← y]; exact leR_self _)
        rcases Int.lt_or_le k n with z | z
        · have := dn z
          have := a2 (by omega)
          omega
        · have := up z
          omega
      | false =>
        rw [if_neg Bool.false_ne_true]
        rintro ⟨b1, b2⟩
        have a2 : 1 < n → (n - 1) * r.1 < l * r.2 := (v5 r vr (r_la.2 rfl)).mp (by
          rcases y2 with y | ⟨_, y, _⟩
          · exact y
          · cases y)
        rcases Int.lt_or_le k n with z | z
        · have := dn z
          have := a2 (by omega)
          omega
        · have := up z
          omega
    · intro hc
      have r0 := vr.1
      have r1 := vr.2.1
      have hr : 0 < h * r.2 := Int.mul_pos (by omega) r1
      have e1 := Int.mul_ediv_add_emod (h * r.2 - 1) r.1
      have e2 := Int.emod_nonneg (h * r.2 - 1) (show r.1 ≠ 0 by omega)
      have e3 := Int.emod_lt_of_pos (h * r.2 - 1) r0
      have e5 : 0 ≤ (h * r.2 - 1) / r.1 := Int.ediv_nonneg (by omega) (by omega)
      obtain ⟨n, hn⟩ : ∃ n : Int, n = (h * r.2 - 1) / r.1 + 1 := ⟨_, rfl⟩
      rw [show (h * r.2 - 1) / r.1 = n - 1 by omega] at e1 e5
      have a1 : h * r.2 ≤ n * r.1 := by
        have : n * r.1 = r.1 * (n - 1) + r.1 := by grind
        omega
      have a0 : (n - 1) * r.1 < h * r.2 := by
        have : (n - 1) * r.1 = r.1 * (n - 1) := Int.mul_comm ..
        omega
      have a2 : 1 < n → (n - 1) * r.1 ≤ l * r.2 ∧ (f = false → (n - 1) * r.1 < l * r.2) := fun c => by
        have := hc (n - 1) (by omega)
        cases f with
        | true => rw [if_pos rfl] at this; exact ⟨by omega, fun e => by cases e⟩
        | false => rw [if_neg Bool.false_ne_true] at this; exact ⟨by omega, fun _ => by omega⟩
      have nN : n ≤ h / (h - l) := by
        rw [Int.le_ediv_iff_mul_le (by omega)]
        rcases Int.lt_or_le 1 n with c | c
        · have b1 := (a2 c).1
          have b2 := Int.mul_le_mul_of_nonneg_left a1 (show 0 ≤ n - 1 by omega)
          have b3 := Int.mul_le_mul_of_nonneg_left b1 (show 0 ≤ n by omega)
          have b4 : (n - 1) * h * r.2 ≤ n * l * r.2 := by
            have c1 : (n - 1) * (h * r.2) = (n - 1) * h * r.2 := by grind
            have c2 : (n - 1) * (n * r.1) = n * ((n - 1) * r.1) := by grind
            have c3 : n * (l * r.2) = n * l * r.2 := by grind
            omega
          have b5 := Int.le_of_mul_le_mul_right b4 r1
          have c4 : n * (h - l) = n * h - n * l := Int.mul_sub ..
          have c5 : (n - 1) * h = n * h - h := by grind
          omega
        · have : n = 1 := by omega
          rw [this]; omega
      have n1 : 1 ≤ n := by omega
      obtain ⟨v1, v2, v3, v4, v5⟩ := rfR_is (l := l) (la := la) (n := n) (lpos n nN) va
      obtain ⟨w1, w2, w3, w4⟩ := flR_is (h := h) (fr := fr) (n := n) (by omega) (by omega) vf
      have f1 : leR (flR h fr n) r := (w4 r vr fr_r).mpr a1
      have f2 : leR r (rfR l la n) := (v4 r vr r_la.1).mpr fun c => (a2 c).1
      refine ⟨((flR h fr n, true), (rfR l la n, false)), dueR_mem.mpr ⟨n.toNat, by omega, by omega, ?_⟩, ?_, ?_⟩
      · rw [show ((n.toNat : Nat) : Int) = n by omega, pcR_mem]
        exact ⟨rfl, leR_tr w1.2.1 vr.2.1 v1.2.1 f1 f2⟩
      · rcases leR_cases w1 vr f1 with z | z
        · exact leC_rt (.inr z)
        · exact leC_rt (.inl z)
      · cases f with
        | true =>
          rcases leR_cases vr v1 f2 with z | z
          · exact .inr ⟨z, rfl, rfl⟩
          · exact .inl z
        | false => exact .inl ((v5 r vr (r_la.2 rfl)).mpr fun c => (a2 c).2 rfl)
end Px

set_option Elab.async false
set_option linter.all false
set_option maxRecDepth 100000
namespace Px
open PySem PySem.Spec PyProof.Rows L2
def rd__law_alone (C : Cl) : PTS := (dSeq (dSetO 4 (dLst dNil))
    (dSeq (dFor (iR3 (dOp fDiv (dVar 1) (dOp fSub (dVar 1) (dVar 0))) (dC (.int 0)) (dNeg (dC (.int 1)))) (gNm 5) (dSeq (dPar 6 7 (dCons (dCall sp_frac2 [] (dCons (dVar 1) (dCons (dVar 5) dNil))) (dCons (dIf (dTst (dOp fGt (dVar 5) (dC (.int 1)))) (dCall sp_frac2 [] (dCons (dVar 0) (dCons (dOp fSub (dVar 5) (dC (.int 1))) dNil))) (dVar 3)) dNil)))
    (dSeq (dPar 6 7 (dCons (dIf (dTst (dCall (sp__law_less C) [] (dCons (dVar 6) (dCons (dVar 2) dNil)))) (dVar 2) (dVar 6)) (dCons (dIf (dTst (dCall (sp__law_less C) [] (dCons (dVar 3) (dCons (dVar 7) dNil)))) (dVar 3) (dVar 7)) dNil)))
    (dIfS (dNot (dTst (dCall (sp__law_less C) [] (dCons (dVar 7) (dCons (dVar 6) dNil))))) (dApp 4 (dTup (dCons (dVar 6) (dCons (dC (.bl true)) (dCons (dVar 7) (dCons (dC (.bl true)) dNil)))))) dNext))))
    (dFrz 4 (dRet (dVar 4)))))
def rd__law_times (C : Cl) : PTS := (dRet (dCall sp_frac2 [] (dCons (dOp fMul (dOp fIx (dVar 0) (dC (.int 0))) (dVar 1)) (dCons (dOp fIx (dVar 0) (dC (.int 1))) dNil))))
def sp__law_alone (C : Cl) : PSp := fun ds M q _ => ar4 ds fun l h f a => asI l fun l => asI h fun h => asP f fun f1 f2 => asP a fun a1 a2 => (0 ≤ l ∧ l < h ∧ h ≤ 1000 ∧ VR (f1, f2) ∧ VR (a1, a2) ∧ szR (f1, f2) ∧ szR (a1, a2)) ∧
  q (.lst (piecesD (dueR l h (f1, f2) (a1, a2) (h / (h - l)).toNat))) M
def rd_a1 (C : Cl) : PTS := (dSeq (dPar 6 7 (dCons (dCall sp_frac2 [] (dCons (dVar 1) (dCons (dVar 5) dNil))) (dCons (dIf (dTst (dOp fGt (dVar 5) (dC (.int 1)))) (dCall sp_frac2 [] (dCons (dVar 0) (dCons (dOp fSub (dVar 5) (dC (.int 1))) dNil))) (dVar 3)) dNil)))
    (dSeq (dPar 6 7 (dCons (dIf (dTst (dCall (sp__law_less C) [] (dCons (dVar 6) (dCons (dVar 2) dNil)))) (dVar 2) (dVar 6)) (dCons (dIf (dTst (dCall (sp__law_less C) [] (dCons (dVar 3) (dCons (dVar 7) dNil)))) (dVar 3) (dVar 7)) dNil)))
    (dIfS (dNot (dTst (dCall (sp__law_less C) [] (dCons (dVar 7) (dCons (dVar 6) dNil))))) (dApp 4 (dTup (dCons (dVar 6) (dCons (dC (.bl true)) (dCons (dVar 7) (dCons (dC (.bl true)) dNil)))))) dNext)))
theorem szR_sz {p : Rt} (vp : VR p) (h : szR p) : Sz p.1 ∧ Sz p.2 := ⟨(szR_ok vp h).sa, (szR_ok vp h).sb⟩
theorem alone_step {C : Cl} {w : PWi} {M : Mm} {P : PEnds} {l h n : Int} {fr la : Rt} (h0 : 0 ≤ l) (hlh : l < h) (hh : h ≤ 1000) (vf : VR fr) (va : VR la) (sf : szR fr) (sa : szR la) (n1 : 1 ≤ n) (nN : n ≤ h / (h - l)) {acc : List (Cut × Cut)} (hacc : acc.length < 1000000) (x6 x7 : Option Sv)
    (hP : ∀ x6 x7, P.nx [some (.val (.int l)), some (.val (.int h)), some (.val (prD fr)), some (.val (prD la)), some (.own (piecesD (acc ++ pcR l h fr la n))), some (.val (.int n)), x6, x7] M) :
    rd_a1 C w P [some (.val (.int l)), some (.val (.int h)), some (.val (prD fr)), some (.val (prD la)), some (.own (piecesD acc)), some (.val (.int n)), x6, x7] M := by
  have N0 : 0 ≤ h / (h - l) := Int.ediv_nonneg (by omega) (by omega)
  have hN1 : h / (h - l) ≤ h := Int.ediv_le_self _ (by omega)
  have lpos : 1 < n → 0 < l := fun h1 => by
    have := (Int.le_ediv_iff_mul_le (show 0 < h - l by omega)).mp (show (2 : Int) ≤ h / (h - l) by omega)
    omega
  obtain ⟨lv, le, ls1, ls2, lspd⟩ := lowR_spec (x := h) (y := n) (by omega) (by omega)
  have ssl : szR (lowR h n) := ⟨by omega, by omega⟩
  have v0 := rf0_v (la := la) (n := n) lpos va
  have s0 : szR (rf0 l la n) := by
    unfold rf0
    by_cases c : 1 < n
    · rw [if_pos c]
      obtain ⟨_, _, a, b, _⟩ := lowR_spec (x := l) (y := n - 1) (lpos c) (by omega)
      exact ⟨by omega, by omega⟩
    · rw [if_neg c]; exact sa
  obtain ⟨f1, f2⟩ := szR_sz vf sf
  obtain ⟨a1, a2⟩ := szR_sz va sa
  obtain ⟨b1, b2⟩ := szR_sz lv ssl
  obtain ⟨c1, c2⟩ := szR_sz v0 s0
  refine ⟨⟨by omega, by omega, Bd.sm (by omega) (by omega)⟩, ?_⟩
  rintro d rfl
  rw [lspd]
  -- behind the first pair
  have step2 : ∀ d7, d7 = prD (rf0 l la n) → (dSeq (dPar 6 7 (dCons (dIf (dTst (dCall (sp__law_less C) [] (dCons (dVar 6) (dCons (dVar 2) dNil)))) (dVar 2) (dVar 6)) (dCons (dIf (dTst (dCall (sp__law_less C) [] (dCons (dVar 3) (dCons (dVar 7) dNil)))) (dVar 3) (dVar 7)) dNil)))
      (dIfS (dNot (dTst (dCall (sp__law_less C) [] (dCons (dVar 7) (dCons (dVar 6) dNil))))) (dApp 4 (dTup (dCons (dVar 6) (dCons (dC (.bl true)) (dCons (dVar 7) (dCons (dC (.bl true)) dNil)))))) dNext)) w P
      [some (.val (.int l)), some (.val (.int h)), some (.val (prD fr)), some (.val (prD la)), some (.own (piecesD acc)), some (.val (.int n)), some (.val (prD (lowR h n))), some (.val d7)] M := by
    rintro d7 rfl
    have vfl := (flR_is (h := h) (fr := fr) (n := n) (by omega) (by omega) vf).1
    have vrf := (rfR_is (l := l) (la := la) (n := n) lpos va).1
    have sfl : szR (flR h fr n) := by unfold flR; split <;> assumption
    have srf : szR (rfR l la n) := by unfold rfR; split <;> assumption
    obtain ⟨g1, g2⟩ := szR_sz vfl sfl
    obtain ⟨k1, k2⟩ := szR_sz vrf srf
    have last : ∀ d6 d7, d6 = prD (flR h fr n) → d7 = prD (rfR l la n) → dIfS (dNot (dTst (dCall (sp__law_less C) [] (dCons (dVar 7) (dCons (dVar 6) dNil))))) (dApp 4 (dTup (dCons (dVar 6) (dCons (dC (.bl true)) (dCons (dVar 7) (dCons (dC (.bl true)) dNil)))))) dNext w P
        [some (.val (.int l)), some (.val (.int h)), some (.val (prD fr)), some (.val (prD la)), some (.own (piecesD acc)), some (.val (.int n)), some (.val d6), some (.val d7)] M := by
      rintro d6 d7 rfl rfl
      have hP := hP (some (.val (prD (flR h fr n)))) (some (.val (prD (rfR l la n))))
      refine ⟨⟨k1, k2, g1, g2⟩, ?_⟩
      unfold pcR at hP
      by_cases c : (rfR l la n).1 * (flR h fr n).2 < (flR h fr n).1 * (rfR l la n).2
      · rw [if_pos c, List.append_nil] at hP
        exact itF (show (!decide _) = false by rw [decide_eq_true c]; rfl) hP
      · rw [if_neg c] at hP
        refine itT (show (!decide _) = true by rw [decide_eq_false c]; rfl) ⟨trivial, (by show (4 : Nat) ≤ 1000000; decide), by unfold piecesD; rw [List.length_map]; exact hacc, ?_⟩
        have e : piecesD (acc ++ [((flR h fr n, true), (rfR l la n, false))]) = piecesD acc ++ [pieceD ((flR h fr n, true), (rfR l la n, false))] := by unfold piecesD; rw [List.map_append]; rfl
        rw [e] at hP
        exact hP
    have e6 : flR h fr n = if (lowR h n).1 * fr.2 < fr.1 * (lowR h n).2 then fr else lowR h n := rfl
    have e7 : rfR l la n = if la.1 * (rf0 l la n).2 < (rf0 l la n).1 * la.2 then la else rf0 l la n := rfl
    refine ⟨⟨b1, b2, f1, f2⟩, ?_⟩
    by_cases c : (lowR h n).1 * fr.2 < fr.1 * (lowR h n).2
    · rw [if_pos c] at e6
      refine itT (decide_eq_true c) ⟨⟨a1, a2, c1, c2⟩, ?_⟩
      by_cases c' : la.1 * (rf0 l la n).2 < (rf0 l la n).1 * la.2
      · rw [if_pos c'] at e7
        exact itT (decide_eq_true c') (last (prD fr) (prD la) (by rw [e6]) (by rw [e7]))
      · rw [if_neg c'] at e7
        exact itF (decide_eq_false c') (last (prD fr) (prD (rf0 l la n)) (by rw [e6]) (by rw [e7]))
    · rw [if_neg c] at e6
      refine itF (decide_eq_false c) ⟨⟨a1, a2, c1, c2⟩, ?_⟩
      by_cases c' : la.1 * (rf0 l la n).2 < (rf0 l la n).1 * la.2
      · rw [if_pos c'] at e7
        exact itT (decide_eq_true c') (last (prD (lowR h n)) (prD la) (by rw [e6]) (by rw [e7]))
      · rw [if_neg c'] at e7
        exact itF (decide_eq_false c') (last (prD (lowR h n)) (prD (rf0 l la n)) (by rw [e6]) (by rw [e7]))
  by_cases c : 1 < n
  · have lp := lpos c
    have sp := (lowR_spec (x := l) (y := n - 1) lp (by omega)).2.2.2.2
    refine itT (decide_eq_true c) ⟨⟨h0, show 0 < n - 1 by omega, Bd.sm (by omega) (by omega)⟩, ?_⟩
    rintro d7 rfl
    exact step2 _ (by rw [sp]; unfold rf0; rw [if_pos c])
  · exact itF (decide_eq_false c) (step2 _ (by unfold rf0; rw [if_neg c]))
theorem dueR_len {l h : Int} {fr la : Rt} : ∀ N : Nat, (dueR l h fr la N).length ≤ N
  | 0 => Nat.le_refl _
  | N + 1 => by
    show (pcR l h fr la (N + 1 : Nat) ++ dueR l h fr la N).length ≤ _
    rw [List.length_append]
    have := dueR_len (l := l) (h := h) (fr := fr) (la := la) N
    have : (pcR l h fr la (N + 1 : Nat)).length ≤ 1 := by unfold pcR; split <;> first | exact Nat.zero_le _ | exact Nat.le_refl _
    omega
theorem sh__law_alone (C : Cl) : Shows (sp__law_alone C) 8 (rd__law_alone C) := by
  intro ds M q e g0
  obtain ⟨l', h', f', a', rfl, g1⟩ := ar4_of g0
  obtain ⟨l, rfl, g2⟩ := asI_of g1
  obtain ⟨h, rfl, g3⟩ := asI_of g2
  obtain ⟨f1, f2, rfl, g4⟩ := asP_of g3
  obtain ⟨a1, a2, rfl, ⟨h0, hlh, hh, vf, va, sf, sa⟩, hq⟩ := asP_of g4
  have N0 : 0 ≤ h / (h - l) := Int.ediv_nonneg (by omega) (by omega)
  have hN1 : h / (h - l) ≤ h := Int.ediv_le_self _ (by omega)
  have main : forR (gNm 5) (rd_a1 C) (fun cls fs _ M' => ∃ M2, MLe M2 M' ∧ e cls fs M2) (rngDn (h / (h - l)) (h / (h - l) - 0).toNat) { nx := fun ρ M' => dFrz 4 (dRet (dVar 4)) (fun cls fs _ M' => ∃ M2, MLe M2 M' ∧ e cls fs M2) { nx := fun _ M' => ∃ M2, MLe M2 M' ∧ q .non M2, rt := fun d M' => ∃ M2, MLe M2 M' ∧ q d M2 } ρ M', rt := fun d M' => ∃ M2, MLe M2 M' ∧ q d M2 }
      [some (.val (.int l)), some (.val (.int h)), some (.val (prD (f1, f2))), some (.val (prD (a1, a2))), some (.own []), none, none, none] M := by
    rw [Int.sub_zero]
    refine forR_ix (fun i ρ M' => M' = M ∧ i ≤ (h / (h - l)).toNat ∧ ∃ (acc : List (Cut × Cut)) (x5 x6 x7 : Option Sv), acc ++ dueR l h (f1, f2) (a1, a2) ((h / (h - l)).toNat - i) = dueR l h (f1, f2) (a1, a2) (h / (h - l)).toNat ∧
      ρ = [some (.val (.int l)), some (.val (.int h)), some (.val (prD (f1, f2))), some (.val (prD (a1, a2))), some (.own (piecesD acc)), x5, x6, x7]) _ 0 (fun i d hd F hF ρ M' hI => ?_) (fun ρ M' hI => ?_) _ _ ⟨rfl, Nat.zero_le _, [], none, none, none, rfl, rfl⟩
    · obtain ⟨rfl, _, acc, x5, x6, x7, he, rfl⟩ := hI
      obtain ⟨rfl, hi⟩ := rngDn_at hd
      have hlen : acc.length ≤ (h / (h - l)).toNat := by
        have z := congrArg List.length he
        rw [List.length_append] at z
        have := dueR_len (l := l) (h := h) (fr := (f1, f2)) (la := (a1, a2)) (h / (h - l)).toNat
        omega
      refine alone_step (C := C) (n := h / (h - l) - (i : Int)) h0 hlh hh vf va sf sa (by omega) (by omega) (by omega) _ _ fun x6 x7 => hF _ _ ⟨rfl, by omega, acc ++ pcR l h (f1, f2) (a1, a2) (h / (h - l) - (i : Int)), _, x6, x7, ?_, rfl⟩
      obtain ⟨j, hj⟩ : ∃ j, (h / (h - l)).toNat - (0 + i) = j + 1 := ⟨(h / (h - l)).toNat - (0 + i) - 1, by omega⟩
      rw [hj] at he
      rw [show (h / (h - l)).toNat - (0 + i + 1) = j by omega, List.append_assoc, ← he]
      show acc ++ (pcR l h (f1, f2) (a1, a2) (h / (h - l) - (i : Int)) ++ dueR l h (f1, f2) (a1, a2) j) = acc ++ (pcR l h (f1, f2) (a1, a2) (j + 1 : Nat) ++ dueR l h (f1, f2) (a1, a2) j)
      rw [show ((j + 1 : Nat) : Int) = h / (h - l) - (i : Int) by omega]
    · obtain ⟨rfl, _, acc, x5, x6, x7, he, rfl⟩ := hI
      rw [rngDn_len, show (h / (h - l)).toNat - (0 + (h / (h - l)).toNat) = 0 by omega] at he
      have he : acc ++ [] = _ := he
      rw [List.append_nil] at he
      refine ⟨M', MLe.refl M', ?_⟩
      rw [he]
      exact hq
  have sd : Sz (h - l) := Sz.of (by omega) (by omega)
  exact ⟨Nat.zero_le _, sd.div (by omega) h, rfl, by omega, by omega, by decide, by decide, main⟩
def sp__law_times (C : Cl) : PSp := fun ds M q _ => ar2 ds fun p t => asP p fun a b => asI t fun t => (VR (a, b) ∧ szR (a, b) ∧ 1 ≤ t ∧ t ≤ 10) ∧ ∀ d, d = prD (lowR (a * t) b) → q d M
theorem sh__law_times (C : Cl) : Shows (sp__law_times C) 2 (rd__law_times C) := by
  intro ds M q e g0
  obtain ⟨p, t', rfl, g1⟩ := ar2_of g0
  obtain ⟨a, b, rfl, g2⟩ := asP_of g1
  obtain ⟨t, rfl, ⟨v, s, t1, t2⟩, hq⟩ := asI_of g2
  obtain ⟨s1, s2⟩ := szR_sz v s
  have a0 : 0 < a := v.1
  have b0 : 0 < b := v.2.1
  have b1 : b ≤ 10 ^ 25 := s.2
  have p0 := Int.mul_pos a0 (show 0 < t by omega)
  refine ⟨_, rfl, s1.mul (Sz.of (by omega) (by omega)), _, rfl, ⟨by omega, b0, Bd.sm (by omega) (by omega)⟩, fun d ed => ⟨M, MLe.refl M, hq d ?_⟩⟩
  rw [ed]
  exact (lowR_spec p0 b0).2.2.2.2
end Px

set_option Elab.async false
set_option linter.all false
set_option maxRecDepth 100000
namespace Px
open PySem PySem.Spec PyProof.Rows L2
/-- what holds of two speeds that a clash tells -/
structure AlikeF (l1 h1 l2 h2 a b x y u v : Int) : Prop where
  sx : isSpD (prD (x, y)) = true
  su : isSpD (prD (u, v)) = true
  lx : l1 * y ≤ x
  hx : x ≤ h1 * y
  lu : l2 * v ≤ u
  hu : u ≤ h2 * v
  less : x * v < u * y
  bx : x ≤ 10 ^ 40
  bu : u ≤ 10 ^ 40
  y1 : y ≤ 10 ^ 31
  v1 : v ≤ 10 ^ 31
  seen : seenAt a b x y = seenAt a b u v
theorem seenAt_mul {a b x y g : Int} (hg : 0 < g) : seenAt a b (g * x) (g * y) = seenAt a b x y := by
  unfold seenAt
  rw [show 2 * a * (g * y) = g * (2 * a * y) by rw [Int.mul_left_comm], Int.mul_assoc g x b, near_mul hg, Int.mul_assoc g y b, spd_mul hg]
/-- the two of a common bottom -/
theorem alikeF_of {l1 h1 l2 h2 a b X Z G x y u v : Int} (ha : 0 < a) (hb : 0 < b) (hG : 0 < G) (hG1 : G ≤ 10 ^ 30) (hX0 : 0 ≤ X) (hZ0 : 0 ≤ Z) (e1 : spd X G = prD (x, y)) (e2 : spd Z G = prD (u, v)) (hlt : h1 < l2)
    (k1 : l1 * G ≤ X) (k2 : X ≤ h1 * G) (k3 : l2 * G ≤ Z) (k4 : Z ≤ h2 * G) (hh1 : h1 ≤ 1000) (hh2 : h2 ≤ 1000) (hs : near (2 * a * G) (X * b) = near (2 * a * G) (Z * b)) : AlikeF l1 h1 l2 h2 a b x y u v := by
  obtain ⟨x', y', g, f1, x0, y0, g0, ex, ey, _, _⟩ := spd_parts hX0 hG
  obtain ⟨u', v', k, f2, u0, v0, k0, eu, ev, _, _⟩ := spd_parts hZ0 hG
  rw [f1] at e1
  rw [f2] at e2
  have q1 : x' = x ∧ y' = y := by
    injection e1 with e1; injection e1 with e1 e3; injection e3 with e3 _; injection e1 with e1; injection e3 with e3; exact ⟨e1, e3⟩
  have q2 : u' = u ∧ v' = v := by
    injection e2 with e2; injection e2 with e2 e3; injection e3 with e3 _; injection e2 with e2; injection e3 with e3; exact ⟨e2, e3⟩
  obtain ⟨rfl, rfl⟩ := q1
  obtain ⟨rfl, rfl⟩ := q2
  have s1 := spd_ok hX0 hG
  have s2 := spd_ok hZ0 hG
  rw [f1] at s1
  rw [f2] at s2
  have dv : ∀ {g l x y X G : Int}, 0 < g → X = g * x → G = g * y → l * G ≤ X → l * y ≤ x := fun {g l x y X G} hg e1 e2 h => by
    refine Int.le_of_mul_le_mul_left (a := g) ?_ hg
    rw [← e1, Int.mul_left_comm, ← e2]; exact h
  have dv2 : ∀ {g l x y X G : Int}, 0 < g → X = g * x → G = g * y → X ≤ l * G → x ≤ l * y := fun {g l x y X G} hg e1 e2 h => by
    refine Int.le_of_mul_le_mul_left (a := g) ?_ hg
    rw [← e1, Int.mul_left_comm, ← e2]; exact h
  have XG : X ≤ 1000 * G := Int.le_trans k2 (Int.mul_le_mul_of_nonneg_right hh1 (by omega))
  have ZG : Z ≤ 1000 * G := Int.le_trans k4 (Int.mul_le_mul_of_nonneg_right hh2 (by omega))
  have le_of : ∀ {g x X : Int}, 0 < g → X = g * x → 0 ≤ x → x ≤ X := fun {g x X} hg e h => by
    have : 1 * x ≤ g * x := Int.mul_le_mul_of_nonneg_right (by omega) h
    omega
  have bx := le_of g0 ex x0
  have bu := le_of k0 eu u0
  have by' := le_of g0 ey (Int.le_of_lt y0)
  have bv := le_of k0 ev (Int.le_of_lt v0)
  refine ⟨s1, s2, dv g0 ex ey k1, dv2 g0 ex ey k2, dv k0 eu ev k3, dv2 k0 eu ev k4, ?_, by omega, by omega, by omega, by omega, ?_⟩
  · have hXZ : X < Z := by
      have h3 : (h1 + 1) * G ≤ l2 * G := Int.mul_le_mul_of_nonneg_right (by omega) (by omega)
      rw [Int.add_mul] at h3
      omega
    have f := Int.mul_lt_mul_of_pos_right hXZ hG
    refine Int.lt_of_mul_lt_mul_left (a := g * k) ?_ (Int.le_of_lt (Int.mul_pos g0 k0))
    have c1 : g * k * (x' * v') = X * G := by
      rw [ex]; conv => { rhs; rw [ev] }
      rw [Int.mul_assoc, Int.mul_assoc, Int.mul_left_comm k x' v']
    have c2 : g * k * (u' * y') = Z * G := by
      rw [eu]; conv => { rhs; rw [ey] }
      rw [Int.mul_comm g k, Int.mul_assoc, Int.mul_assoc, Int.mul_left_comm g u' y']
    rw [c1, c2]
    exact f
  · have c1 := seenAt_mul (a := a) (b := b) (x := x') (y := y') g0
    have c2 := seenAt_mul (a := a) (b := b) (x := u') (y := v') k0
    rw [← c1, ← c2, ← ex, ← ey, ← eu, ← ev]
    unfold seenAt
    rw [hs]
theorem alike_facts {l1 h1 l2 h2 a b x y u v : Int} (hB : BnOk l1 h1 l2 h2) (hr : RtOk a b) (e : alikeD l1 h1 l2 h2 a b = .tup [prD (x, y), prD (u, v)]) : AlikeF l1 h1 l2 h2 a b x y u v := by
  obtain ⟨b1, b2, b3, b4, b5⟩ := hB
  have k1 : EnOk (l1 + l2) := ⟨by omega, by omega⟩
  have k2 : EnOk (h1 + h2) := ⟨by omega, by omega⟩
  have k3 : EnOk (l2 - h1) := ⟨by omega, by omega⟩
  have k4 : EnOk (h2 - l1) := ⟨by omega, by omega⟩
  have ha := hr.1
  unfold alikeD at e
  by_cases c1 : gapIs (l1 + l2) (h1 + h2) a b = true
  · rw [if_pos c1] at e
    obtain ⟨G0, G1, t, eG, p0, p1, p2, p3, p4, p5, p6, p7⟩ := gap_facts (by omega) k1 k2 hr c1
    rw [eG] at e
    have e : D.tup [spd (aX l1 h2 G0 G1) G1, spd (G0 - aX l1 h2 G0 G1) G1] = .tup [prD (x, y), prD (u, v)] := e
    have z1 : spd (aX l1 h2 G0 G1) G1 = prD (x, y) := by injection e with e; injection e
    have z2 : spd (G0 - aX l1 h2 G0 G1) G1 = prD (u, v) := by injection e with e; injection e with _ e; injection e
    rw [Int.add_mul] at p4 p5
    have hl : l1 * G1 ≤ h1 * G1 := Int.mul_le_mul_of_nonneg_right (by omega) (by omega)
    have hl2 : l2 * G1 ≤ h2 * G1 := Int.mul_le_mul_of_nonneg_right (by omega) (by omega)
    have hl0 : 0 ≤ l1 * G1 := Int.mul_nonneg (by omega) (by omega)
    have hl20 : 0 ≤ l2 * G1 := Int.mul_nonneg (by omega) (by omega)
    have X1 : l1 * G1 ≤ aX l1 h2 G0 G1 := by unfold aX; split <;> omega
    have X2 : aX l1 h2 G0 G1 ≤ h1 * G1 := by unfold aX; split <;> omega
    have X3 : l2 * G1 ≤ G0 - aX l1 h2 G0 G1 := by unfold aX; split <;> omega
    have X4 : G0 - aX l1 h2 G0 G1 ≤ h2 * G1 := by unfold aX; split <;> omega
    refine alikeF_of ha hr.2.2.1 p1 p2 (by omega) (by omega) z1 z2 b3 X1 X2 X3 X4 (by omega) (by omega) ?_
    rw [near_iff (Int.mul_pos (by omega) p1)]
    refine .inr ?_
    rw [← Int.add_mul, show aX l1 h2 G0 G1 + (G0 - aX l1 h2 G0 G1) = G0 by omega, p7, show 2 * t * a * G1 = 2 * a * G1 * t by
      rw [Int.mul_right_comm 2 t a, Int.mul_right_comm (2 * a) t G1]]
    exact Int.mul_emod_right ..
  · rw [if_neg c1] at e
    by_cases c3 : gapIs (l2 - h1) (h2 - l1) a b = true
    · rw [if_pos c3] at e
      obtain ⟨G0, G1, t, eG, p0, p1, p2, p3, p4, p5, p6, p7⟩ := gap_facts (by omega) k3 k4 hr c3
      rw [eG] at e
      have e : D.tup [spd (bX l1 l2 G0 G1) G1, spd (bX l1 l2 G0 G1 + G0) G1] = .tup [prD (x, y), prD (u, v)] := e
      have z1 : spd (bX l1 l2 G0 G1) G1 = prD (x, y) := by injection e with e; injection e
      have z2 : spd (bX l1 l2 G0 G1 + G0) G1 = prD (u, v) := by injection e with e; injection e with _ e; injection e
      rw [Int.sub_mul] at p4 p5
      have hl : l1 * G1 ≤ h1 * G1 := Int.mul_le_mul_of_nonneg_right (by omega) (by omega)
      have hl2 : l2 * G1 ≤ h2 * G1 := Int.mul_le_mul_of_nonneg_right (by omega) (by omega)
      have hl0 : 0 ≤ l1 * G1 := Int.mul_nonneg (by omega) (by omega)
      have X1 : l1 * G1 ≤ bX l1 l2 G0 G1 := by unfold bX; split <;> omega
      have X2 : bX l1 l2 G0 G1 ≤ h1 * G1 := by unfold bX; split <;> omega
      have X3 : l2 * G1 ≤ bX l1 l2 G0 G1 + G0 := by unfold bX; split <;> omega
      have X4 : bX l1 l2 G0 G1 + G0 ≤ h2 * G1 := by unfold bX; split <;> omega
      refine alikeF_of ha hr.2.2.1 p1 p2 (by omega) (by omega) z1 z2 b3 X1 X2 X3 X4 (by omega) (by omega) ?_
      rw [near_iff (Int.mul_pos (by omega) p1)]
      refine .inl ?_
      rw [← Int.sub_mul, show bX l1 l2 G0 G1 - (bX l1 l2 G0 G1 + G0) = -G0 by omega, Int.neg_mul, p7, show -(2 * t * a * G1) = 2 * a * G1 * -t by
        rw [Int.mul_right_comm 2 t a, Int.mul_right_comm (2 * a) t G1, Int.mul_neg]]
      exact Int.mul_emod_right ..
    · rw [if_neg c3] at e
      exact nomatch e
/-- the pair that is told stands in two bands, one ahead of the other -/
theorem pairD_of {a b : Int} {p : Int × Int} {z : D} : ∀ {r : Bs}, pairD a b p r = z → z ≠ .non → ∃ (i : Nat) (x : Int × Int), r[i]? = some x ∧ alikeD p.1 p.2 x.1 x.2 a b = z
  | [], e, hn => absurd e.symm hn
  | x :: r, e, hn => by
    unfold pairD at e
    rcases alikeD_form p.1 p.2 x.1 x.2 a b with e1 | ⟨y1, y2, y3, y4, e1⟩
    · rw [e1] at e
      obtain ⟨i, x', h1, h2⟩ := pairD_of (r := r) e hn
      exact ⟨i + 1, x', h1, h2⟩
    · rw [e1] at e
      exact ⟨0, x, rfl, by rw [e1]; exact e⟩
theorem pairsD_of {a b : Int} {z : D} : ∀ {r : Bs}, pairsD a b r = z → z ≠ .non → ∃ (i j : Nat) (p x : Int × Int), i < j ∧ r[i]? = some p ∧ r[j]? = some x ∧ alikeD p.1 p.2 x.1 x.2 a b = z
  | [], e, hn => absurd e.symm hn
  | x :: r, e, hn => by
    unfold pairsD at e
    rcases pairD_form a b x r with e1 | ⟨y1, y2, y3, y4, e1⟩
    · rw [e1] at e
      obtain ⟨i, j, p, x', h0, h1, h2, h3⟩ := pairsD_of (r := r) e hn
      exact ⟨i + 1, j + 1, p, x', by omega, h1, h2, h3⟩
    · rw [e1] at e
      have e2 : pairD a b x r = z := by rw [e1]; exact e
      obtain ⟨i, x', h1, h2⟩ := pairD_of e2 hn
      exact ⟨0, i + 1, x, x', by omega, rfl, h1, h2⟩
theorem firstFold_of {a b : Int} : ∀ {r : Bs} {n k : Nat} {t : Int}, firstFold a b n r = some (k, t) → ∃ i p, k = n + i ∧ r[i]? = some p ∧ foldV p.1 p.2 a b = some t
  | [], n, k, t, e => nomatch e
  | x :: r, n, k, t, e => by
    unfold firstFold at e
    cases c : foldV x.1 x.2 a b with
    | some t' =>
      rw [c] at e
      cases e
      exact ⟨0, x, rfl, rfl, c⟩
    | none =>
      rw [c] at e
      obtain ⟨i, p, e1, e2, e3⟩ := firstFold_of (r := r) e
      exact ⟨i + 1, p, by omega, e2, e3⟩
/-- only one band has it -/
theorem bandOf_one {x y : Int} (hy : 0 < y) : ∀ {r : Bs} {n i : Nat} {p : Int × Int}, BsOk r → r[i]? = some p → p.1 * y ≤ x → x ≤ p.2 * y → bandOf x y n r = [.int ((n + i : Nat) : Int)]
  | [], n, i, p, _, e, _, _ => by simp at e
  | z :: r, n, i, p, hb, e, h1, h2 => by
    obtain ⟨hz, hbr, hl⟩ := hb.cons
    have none_of : ∀ (s : Bs) (m : Nat), (∀ q ∈ s, x < q.1 * y) → bandOf x y m s = [] := by
      intro s
      induction s with
      | nil => intro m _; rfl
      | cons q s ih =>
        intro m hq
        unfold bandOf
        rw [if_neg (fun c => by have := hq q List.mem_cons_self; omega)]
        exact ih (m + 1) fun q' h' => hq q' (List.mem_cons_of_mem _ h')
    unfold bandOf
    cases i with
    | zero =>
      have ep : z = p := Option.some.inj e
      subst ep
      rw [if_pos ⟨h1, h2⟩, none_of r (n + 1) (fun q hq => by
        have := hl q hq
        have h3 : (z.2 + 1) * y ≤ q.1 * y := Int.mul_le_mul_of_nonneg_right (by omega) (by omega)
        rw [Int.add_mul] at h3
        omega)]
      rfl
    | succ i =>
      have er : r[i]? = some p := e
      have hp := hl p (List.mem_of_getElem? er)
      rw [if_neg (fun c => by
        have h3 : (z.2 + 1) * y ≤ p.1 * y := Int.mul_le_mul_of_nonneg_right (by omega) (by omega)
        rw [Int.add_mul] at h3
        have := c.2
        omega), bandOf_one hy hbr er h1 h2]
      have e2 : n + 1 + i = n + (i + 1) := by omega
      rw [e2]
end Px

set_option Elab.async false
set_option linter.all false
set_option maxRecDepth 100000
namespace Px
open PySem PySem.Spec PyProof.Rows L2
def sp__law_clash_right (C : Cl) : PSp := fun ds M q _ => ar3 ds fun d r f => ∃ bs, d = .lst (bsD bs) ∧ asP r fun a b => (BsOk bs ∧ bs.length ≤ 4 ∧ RtOk a b ∧ f = clashD a b bs ∧ f ≠ .non) ∧ q (.bl true) M
def rd__law_clash_right (C : Cl) : PTS := (dSeq (dIfS (dOr (dNot (dTst (dB1 (fIsi "tuple") (dVar 2)))) (dTst (dOp fNe (dB1 fLen (dVar 2)) (dC (.int 3))))) (dRet (dC (.bl false))) dNext)
    (dSeq (dAsg (dVar 2) (gTp 3 (gsCons (gNm 3) (gsCons (gNm 4) (gsCons (gNm 5) gsNil)))))
    (dSeq (dIfS (dTst (dOp fEq (dVar 3) (dC (.str "folded")))) (dSeq (dIfS (dOr (dNot (dTst (dCall (sp__law_is_int C) [] (dCons (dVar 4) (dCons (dC (.int 0)) (dCons (dOp fSub (dB1 fLen (dVar 0)) (dC (.int 1))) dNil)))))) (dNot (dTst (dCall (sp__law_is_int C) [] (dCons (dVar 5) (dCons (dC (.int 1)) (dCons (dOp fPow (dC (.int 10)) (dC (.int 60))) dNil))))))) (dRet (dC (.bl false))) dNext)
    (dSeq (dAsg (dOp fIx (dVar 0) (dVar 4)) (gTp 2 (gsCons (gNm 6) (gsCons (gNm 7) gsNil))))
    (dRet (dChain fLt fLt (dOp fMul (dVar 6) (dOp fIx (dVar 1) (dC (.int 1)))) (dOp fMul (dVar 5) (dOp fIx (dVar 1) (dC (.int 0)))) (dOp fMul (dVar 7) (dOp fIx (dVar 1) (dC (.int 1)))))))) dNext)
    (dSeq (dIfS (dOr (dTst (dOp fNe (dVar 3) (dC (.str "alike")))) (dOr (dNot (dTst (dCall (sp__law_is_speed C) [] (dCons (dVar 4) dNil)))) (dNot (dTst (dCall (sp__law_is_speed C) [] (dCons (dVar 5) dNil)))))) (dRet (dC (.bl false))) dNext)
    (dSeq (dIfS (dNot (dTst (dCall (sp__law_less C) [] (dCons (dVar 4) (dCons (dVar 5) dNil))))) (dRet (dC (.bl false))) dNext)
    (dSeq (dPar 8 9 (dCons (dCall (sp__law_band_of C) [] (dCons (dVar 0) (dCons (dVar 4) dNil))) (dCons (dCall (sp__law_band_of C) [] (dCons (dVar 0) (dCons (dVar 5) dNil))) dNil)))
    (dSeq (dIfS (dOr (dTst (dOp fEq (dVar 8) (dL (dLst dNil)))) (dOr (dTst (dOp fEq (dVar 9) (dL (dLst dNil)))) (dTst (dOp fEq (dVar 8) (dVar 9))))) (dRet (dC (.bl false))) dNext)
    (dRet (dOp fEq (dCall (sp__law_seen_at2 C) [] (dCons (dVar 1) (dCons (dVar 4) dNil))) (dCall (sp__law_seen_at2 C) [] (dCons (dVar 1) (dCons (dVar 5) dNil))))))))))))
theorem str_ne1 : eqD (.str "alike") (.str "folded") = false := by decide +kernel
theorem str_eq1 : eqD (.str "folded") (.str "folded") = true := by decide +kernel
theorem str_eq2 : (!eqD (.str "alike") (.str "alike")) = false := by decide +kernel
theorem ok_s1 : (okD 50 (.str "folded") && okD 50 (.str "folded")) = true := by decide +kernel
theorem ok_s2 : (okD 50 (.str "alike") && okD 50 (.str "folded")) = true := by decide +kernel
theorem ok_s3 : (okD 50 (.str "alike") && okD 50 (.str "alike")) = true := by decide +kernel
theorem eqD_self_spd (t b : Int) : eqD (spd t b) (spd t b) = true := by
  have e : eqD (spd t b) (spd t b) = (decide (t / g0 t b = t / g0 t b) && (decide (b / g0 t b = b / g0 t b) && true)) := rfl
  rw [e]; simp
theorem sh__law_clash_right (C : Cl) : Shows (sp__law_clash_right C) 10 (rd__law_clash_right C) := by
  intro ds M q e h0
  obtain ⟨d, r, f, e1, bs, e2, h⟩ := ar3_of h0
  obtain ⟨a, b, e3, ⟨hb, hl, hr, hf, hn⟩, hq⟩ := asP_of h
  subst e1 e2 e3
  have hlen : (bsD bs).length = bs.length := List.length_map ..
  unfold clashD at hf
  cases c : firstFold a b 0 bs with
  | some z =>
    obtain ⟨k, t⟩ := z
    rw [c] at hf
    subst hf
    obtain ⟨i, p, ek, hp, ht⟩ := firstFold_of c
    have ek : k = i := by omega
    subst ek
    have hi : k < bs.length := (List.getElem?_eq_some_iff.mp hp).1
    have hpo := hb.1 p (List.mem_of_getElem? hp)
    obtain ⟨k1, k2⟩ := en_of hpo
    have at1 : atI (bsD bs) ((k : Nat) : Int) = some (prD p) := atI_nat (by unfold bsD; rw [List.getElem?_map, hp]; rfl)
    unfold foldV at ht
    have hc : (p.1 * b / a + 1) * a < p.2 * b ∧ t = p.1 * b / a + 1 := by
      split at ht
      · rename_i h; exact ⟨h, (Option.some.inj ht).symm⟩
      · exact nomatch ht
    obtain ⟨hc, et⟩ := hc
    have ha := hr.1
    have m1 := en_mul k1 hr.2.2.1 hr.2.2.2
    have m0 : 0 ≤ p.1 * b := Int.mul_nonneg hpo.1 (by have := hr.2.2.1; omega)
    have d0 : 0 ≤ p.1 * b / a := Int.ediv_nonneg m0 (by omega)
    have d1 := Int.ediv_le_self a m0
    have lt1 : p.1 * b < t * a := by
      rw [et]
      exact Int.lt_ediv_add_one_mul_self _ ha
    have st : Sz t := ⟨by omega, by omega⟩
    refine ⟨rfl, rfl, ok_s1, ⟨by omega, by omega⟩, ⟨by decide, by decide, by decide⟩, ⟨by omega, by show t ≤ 10 ^ 60; omega⟩, _, at1, rfl, _, rfl, k1.sz.mul hr.sb, _, rfl, st.mul hr.sa, itT (decide_eq_true lt1) ⟨_, rfl, k2.sz.mul hr.sb, M, MLe.refl M, ?_⟩⟩
    show q (.bl (decide (t * a < p.2 * b))) M
    rw [decide_eq_true (by rw [et]; exact hc)]
    exact hq
  | none =>
    rw [c] at hf
    have hf : f = alikeT (pairsD a b bs) := hf
    rcases pairsD_form a b bs with e4 | ⟨x, y, u, v, e4⟩
    · rw [e4] at hf
      exact absurd hf hn
    · obtain ⟨i, j, p, p', hij, hp, hp', ea⟩ := pairsD_of e4 (fun z => nomatch z)
      rw [e4] at hf
      have hf : f = .tup [.str "alike", prD (x, y), prD (u, v)] := hf
      subst hf
      have hi : i < bs.length := (List.getElem?_eq_some_iff.mp hp).1
      have hj : j < bs.length := (List.getElem?_eq_some_iff.mp hp').1
      have q1 := hb.1 p (List.mem_of_getElem? hp)
      have q2 := hb.1 p' (List.mem_of_getElem? hp')
      have q3 : p.2 < p'.1 := by
        have e5 := List.pairwise_iff_getElem.mp hb.2 i j hi hj hij
        rw [(List.getElem?_eq_some_iff.mp hp).2, (List.getElem?_eq_some_iff.mp hp').2] at e5
        exact e5
      have F := alike_facts (l1 := p.1) (h1 := p.2) (l2 := p'.1) (h2 := p'.2) ⟨q1.1, q1.2.1, q3, q2.2.1, q2.2.2⟩ hr ea
      obtain ⟨x0, y0, _⟩ := spd_low F.sx
      obtain ⟨u0, v0, _⟩ := spd_low F.su
      have by1 := F.y1
      have bv1 := F.v1
      have bx := F.bx
      have bu := F.bu
      have sx : Sz x := ⟨by omega, by omega⟩
      have sy : Sz y := ⟨by omega, by omega⟩
      have su : Sz u := ⟨by omega, by omega⟩
      have sv : Sz v := ⟨by omega, by omega⟩
      have o1 := bandOf_one y0 (n := 0) hb hp F.lx F.hx
      have o2 := bandOf_one v0 (n := 0) hb hp' F.lu F.hu
      refine ⟨rfl, rfl, ok_s2, ok_s3, ⟨F.sx, by omega⟩, ⟨F.su, by omega⟩, ⟨sx, sy, su, sv⟩, ?_⟩
      refine itF (by rw [decide_eq_true F.less]; rfl) ⟨bs, rfl, ⟨hb.1, hl, sy⟩, fun z hz => ⟨bs, rfl, ⟨hb.1, hl, sv⟩, fun z' hz' => ?_⟩⟩
      rw [o1] at hz
      rw [o2] at hz'
      subst hz hz'
      dsimp only [st]
      refine ⟨by simp, rfl, by simp, rfl, rfl, ?_⟩
      refine itF (by
        show (decide (((0 + i : Nat) : Int) = ((0 + j : Nat) : Int)) && true) = false
        rw [decide_eq_false (by omega)]; rfl) ⟨⟨hr, ⟨x0, bx⟩, y0, by1⟩, fun z hz => ⟨⟨hr, ⟨u0, bu⟩, v0, bv1⟩, fun z' hz' => ?_⟩⟩
      rw [F.seen] at hz
      subst hz hz'
      refine ⟨rfl, M, MLe.refl M, ?_⟩
      show q (.bl (eqD (spd _ _) (spd _ _))) M
      rw [eqD_self_spd]
      exact hq
end Px

set_option Elab.async false
set_option linter.all false
set_option maxRecDepth 100000
namespace Px
open PySem PySem.Spec PyProof.Rows L2
def sp__law_bands (C : Cl) : PSp := fun ds M q _ => ar1 ds fun d => asDraw d M (∀ bs, BsOk bs → 0 < bs.length → bs.length ≤ 4 → q (.lst (bsD bs)) M)
def rd__law_bands (C : Cl) : PTS := (dSeq (dParL3 1 2 3 (dCall sp_pick [] (dCons (dVar 0) (dCons (dL (dLst (dCons (dC (.int 12)) (dCons (dC (.int 30)) (dCons (dC (.int 60)) (dCons (dC (.int 60)) (dCons (dC (.int 120)) dNil))))))) dNil))) (.int (-1)))
    (dSeq (dFor (iR1 (dCall sp_pick [] (dCons (dVar 0) (dCons (dL (dLst (dCons (dC (.int 1)) (dCons (dC (.int 2)) (dCons (dC (.int 2)) (dCons (dC (.int 3)) (dCons (dC (.int 4)) dNil))))))) dNil)))) (gNm 4) (dSeq (dSet 5 (dOp fAdd (dOp fAdd (dVar 3) (dC (.int 1))) (dCall sp_take [] (dCons (dVar 0) (dCons (dVar 1) dNil)))))
    (dSeq (dSet 6 (dOp fAdd (dOp fAdd (dVar 5) (dC (.int 1))) (dCall sp_take [] (dCons (dVar 0) (dCons (dCall sp_pick [] (dCons (dVar 0) (dCons (dL (dLst (dCons (dC (.int 1)) (dCons (dC (.int 3)) (dCons (dC (.int 10)) dNil))))) dNil))) dNil)))))
    (dSeq (dApp 2 (dTup (dCons (dVar 5) (dCons (dVar 6) dNil))))
    (dSet 3 (dVar 6))))))
    (dFrz 2 (dRet (dIf (dTst (dOp fLe (dVar 3) (dC (.int 1000)))) (dVar 2) (dL (dLst (dCons (dTup (dCons (dC (.int 0)) (dCons (dC (.int 5)) dNil))) (dCons (dTup (dCons (dC (.int 7)) (dCons (dC (.int 1000)) dNil))) dNil)))))))))
/-- as bands, but for the roof -/
def BsUp (bs : Bs) (last : Int) : Prop := (∀ p ∈ bs, 0 ≤ p.1 ∧ p.1 < p.2 ∧ p.2 ≤ last) ∧ bs.Pairwise fun p q => p.2 < q.1
theorem BsUp.snoc {bs : Bs} {last l h : Int} (H : BsUp bs last) (h1 : last < l) (h0 : 0 ≤ l) (h2 : l < h) : BsUp (bs ++ [(l, h)]) h := by
  refine ⟨fun p hp => ?_, ?_⟩
  · rcases List.mem_append.mp hp with hp | hp
    · obtain ⟨a, b, c⟩ := H.1 p hp
      exact ⟨a, b, by omega⟩
    · rw [List.mem_singleton.mp hp]
      exact ⟨h0, h2, Int.le_refl _⟩
  · refine List.pairwise_append.mpr ⟨H.2, List.pairwise_singleton .., fun p hp q hq => ?_⟩
    rw [List.mem_singleton.mp hq]
    have := (H.1 p hp).2.2
    show p.2 < l
    omega
theorem bsD_snoc (bs : Bs) (p : Int × Int) : bsD bs ++ [prD p] = bsD (bs ++ [p]) := by
  unfold bsD
  rw [List.map_append]; rfl
theorem sh__law_bands (C : Cl) : Shows (sp__law_bands C) 7 (rd__law_bands C) := by
  intro ds M q e h
  obtain ⟨d, rfl, h⟩ := ar1_of h
  obtain ⟨a, rfl, hm, hq⟩ := asDraw_of h
  refine ⟨by decide, hm, ⟨by decide, by decide⟩, fun x hx => ?_⟩
  obtain ⟨top, rfl, t1, t2⟩ : ∃ n : Int, x = .int n ∧ 1 ≤ n ∧ n ≤ 120 := by
    simp only [List.mem_cons, List.not_mem_nil, or_false] at hx
    rcases hx with rfl | rfl | rfl | rfl | rfl <;> exact ⟨_, rfl, by decide, by decide⟩
  refine ⟨by decide, hm, ⟨by decide, by decide⟩, fun x hx => ?_⟩
  obtain ⟨n, rfl, n1, n2⟩ : ∃ n : Int, x = .int n ∧ 1 ≤ n ∧ n ≤ 4 := by
    simp only [List.mem_cons, List.not_mem_nil, or_false] at hx
    rcases hx with rfl | rfl | rfl | rfl | rfl <;> exact ⟨_, rfl, by decide, by decide⟩
  refine ⟨by omega, by omega, ?_⟩
  have hlen : (rngD 0 n.toNat).length = n.toNat := by unfold rngD; rw [List.length_map, List.length_range]
  refine forR_ix (fun k ρ M' => M' = M ∧ ∃ (bs : Bs) (last : Int) (x4 x5 x6 : Option Sv), ρ = [some (.val (.raw (.ref a))), some (.val (.int top)), some (.own (bsD bs)), some (.val (.int last)), x4, x5, x6] ∧ BsUp bs last ∧ bs.length = k ∧ last ≤ 131 * k ∧ -1 ≤ last) _ 0 ?_ ?_ _ _
    ⟨rfl, [], -1, none, none, none, rfl, ⟨fun _ hp => (nomatch hp), .nil⟩, rfl, by decide, by decide⟩
  · rintro i d hd F hF ρ M' ⟨rfl, bs, last, x4, x5, x6, rfl, hb, hk, hl, hl0⟩
    have hi : i < (rngD 0 n.toNat).length := (List.getElem?_eq_some_iff.mp hd).1
    rw [hlen] at hi
    refine ⟨hm, ⟨by omega, log_sm (by omega) (by omega)⟩, fun k k0 k1 => ?_⟩
    refine ⟨by decide, hm, ⟨by decide, by decide⟩, fun x hx => ?_⟩
    obtain ⟨m, rfl, m1, m2⟩ : ∃ n : Int, x = .int n ∧ 1 ≤ n ∧ n ≤ 10 := by
      simp only [List.mem_cons, List.not_mem_nil, or_false] at hx
      rcases hx with rfl | rfl | rfl <;> exact ⟨_, rfl, by decide, by decide⟩
    refine ⟨hm, ⟨by omega, log_sm (by omega) (by omega)⟩, fun j j0 j1 => ?_⟩
    have hlb : (bsD bs).length = bs.length := List.length_map ..
    refine ⟨trivial, by simp, by omega, ?_⟩
    refine hF _ _ ⟨rfl, bs ++ [(last + 1 + k, last + 1 + k + 1 + j)], last + 1 + k + 1 + j, some (.val d), some (.val (.int (last + 1 + k))), some (.val (.int (last + 1 + k + 1 + j))), ?_, hb.snoc (by omega) (by omega) (by omega), by rw [List.length_append, hk]; rfl, by omega, by omega⟩
    rw [← bsD_snoc]
    rfl
  · rintro ρ M' ⟨rfl, bs, last, x4, x5, x6, rfl, hb, hk, hl, hl0⟩
    rw [hlen, Nat.zero_add] at hk hl
    refine itT (decide_eq_true (show last ≤ 1000 by omega)) ⟨M', MLe.refl M', hq bs ⟨fun p hp => ?_, hb.2⟩ (by omega) (by omega)⟩
    obtain ⟨b1, b2, b3⟩ := hb.1 p hp
    exact ⟨b1, b2, by omega⟩
end Px

set_option Elab.async false
set_option linter.all false
set_option maxRecDepth 100000
namespace Px
open PySem PySem.Spec PyProof.Rows L2
/-! # repr of many pieces -/
structure Shk (n w : Nat) (d : D) : Prop where
  ok : okD n d = true
  sh : PyData.showable (toPy d) = true
  lv : PyData.leavesShort 25 (toPy d) = true
  wt : PyData.weight (toPy d) ≤ w
structure ShkL (n w : Nat) (l : List D) : Prop where
  ok : l.all (okD n) = true
  sh : PyData.showableAll (toPyL l) = true
  lv : PyData.leavesShortAll 25 (toPyL l) = true
  wt : PyData.weightAll (toPyL l) ≤ w
theorem Shk.int {n : Nat} {i : Int} (h : -(10 ^ 20) ≤ i ∧ i ≤ 10 ^ 20) : Shk n 67 (.int i) := by
  have a : i.natAbs < 10 ^ 21 := by have := h.1; have := h.2; omega
  have a2 : i.natAbs < 2 ^ 67 := Nat.lt_of_le_of_lt (show i.natAbs ≤ 10 ^ 20 by have := h.1; have := h.2; omega) (by decide)
  refine ⟨by cases n <;> rfl, ?_, ?_, ?_⟩
  · show PyData.showable (.int i) = true
    simp only [PyData.showable]
    exact decide_eq_true (PySem.Flt.log2_lt_of (by decide) (Nat.lt_of_lt_of_le a2 (Nat.pow_le_pow_right (by decide) (by decide))))
  · have := int_text_length_le10 (a := i) (k := 21) (by decide) a
    show decide _ = true
    refine decide_eq_true ?_
    simp only [PyData.shown]
    rw [PySem.ofString_length]
    omega
  · have := PySem.Flt.log2_lt_of (by decide) a2
    show PyData.weight (.int i) ≤ 67
    simp only [PyData.weight]
    split <;> omega
theorem Shk.bl {n : Nat} {b : Bool} : Shk n 0 (.bl b) := ⟨by cases n <;> rfl, rfl, rfl, by show PyData.weight (.bool b) ≤ 0; simp [PyData.weight]⟩
theorem ShkL.nil {n : Nat} : ShkL n 0 [] := ⟨rfl, rfl, rfl, by simp [toPyL, PyData.weightAll]⟩
theorem ShkL.cons {n a b : Nat} {d : D} {l : List D} (h : Shk n a d) (k : ShkL n b l) : ShkL n (a + 1 + b) (d :: l) := by
  refine ⟨by rw [List.all_cons, h.ok, k.ok]; rfl, ?_, ?_, ?_⟩
  · show (PyData.showable (toPy d) && PyData.showableAll (toPyL l)) = true
    rw [h.sh, k.sh]; rfl
  · show (PyData.leavesShort 25 (toPy d) && PyData.leavesShortAll 25 (toPyL l)) = true
    rw [h.lv, k.lv]; rfl
  · show PyData.weight (toPy d) + 1 + PyData.weightAll (toPyL l) ≤ _
    have := h.wt; have := k.wt; omega
theorem ShkL.all {n w : Nat} : ∀ {l : List D}, (∀ d ∈ l, Shk n w d) → ShkL n ((w + 1) * l.length) l
  | [], _ => .nil
  | d :: r, h => by
    have := ShkL.cons (h d List.mem_cons_self) (ShkL.all fun x q => h x (List.mem_cons_of_mem _ q))
    have e : (w + 1) * (d :: r).length = w + 1 + (w + 1) * r.length := by rw [List.length_cons, Nat.mul_succ]; omega
    rw [e]; exact this
theorem Shk.tup {n w : Nat} {l : List D} (h : ShkL n w l) : Shk (n + 1) w (.tup l) := ⟨h.ok, h.sh, h.lv, h.wt⟩
theorem Shk.lst {n w : Nat} {l : List D} (h : ShkL n w l) : Shk (n + 1) w (.lst l) := ⟨h.ok, h.sh, h.lv, h.wt⟩
theorem Shk.show {n w : Nat} {d : D} (h : Shk n w d) (hw : w ≤ 500000) : showOk (toPy d) := by
  refine ⟨h.sh, ?_⟩
  have h1 := PyData.shown_le 25 (by decide) _ h.lv
  have h2 := Nat.mul_le_mul_left (25 + 2) (Nat.le_trans h.wt hw)
  omega
def szS (p : Rt) : Prop := p.1 ≤ 10 ^ 20 ∧ p.2 ≤ 10 ^ 20
theorem Shk.rate {n : Nat} {p : Rt} (vp : VR p) (h : szS p) : Shk (n + 1) 136 (prD p) := by
  have := vp.1
  have := vp.2.1
  exact .tup (.cons (.int ⟨by omega, h.1⟩) (.cons (.int ⟨by omega, h.2⟩) .nil))
theorem Shk.piece {p : Cut × Cut} (v1 : VC p.1) (v2 : VC p.2) (s1 : szS p.1.1) (s2 : szS p.2.1) : Shk 2 276 (pieceD p) :=
  .tup (.cons (.rate (n := 0) v1 s1) (.cons .bl (.cons (.rate (n := 0) v2 s2) (.cons .bl .nil))))
theorem Shk.pieces {R : List (Cut × Cut)} (h : ∀ p ∈ R, VC p.1 ∧ VC p.2 ∧ szS p.1.1 ∧ szS p.2.1) : Shk 3 (277 * R.length) (.lst (piecesD R)) := by
  have := Shk.lst (ShkL.all (n := 2) (w := 276) (l := piecesD R) fun d hd => by
    obtain ⟨p, hp, rfl⟩ := List.mem_map.mp hd
    obtain ⟨a, b, c, d⟩ := h p hp
    exact .piece a b c d)
  rw [show (piecesD R).length = R.length by unfold piecesD; rw [List.length_map]] at this
  exact this
/-! # a single band -/
theorem due_szS {l h : Int} {fr la : Rt} (h0 : 0 ≤ l) (hlh : l < h) (hh : h ≤ 1000) (vf : VR fr) (va : VR la) (sf : szS fr) (sa : szS la) : ∀ p ∈ dueR l h fr la (h / (h - l)).toNat, szS p.1.1 ∧ szS p.2.1 := by
  intro p hp
  have N0 : 0 ≤ h / (h - l) := Int.ediv_nonneg (by omega) (by omega)
  have hN1 : h / (h - l) ≤ h := Int.ediv_le_self _ (by omega)
  obtain ⟨n, h1, h2, z⟩ := dueR_mem.mp hp
  rw [pcR_mem] at z
  obtain ⟨rfl, _⟩ := z
  constructor
  · show szS (flR h fr n)
    unfold flR
    split
    · exact sf
    · obtain ⟨_, _, a, b, _⟩ := lowR_spec (x := h) (y := (n : Int)) (by omega) (by omega)
      exact ⟨by omega, by omega⟩
  · show szS (rfR l la n)
    unfold rfR
    split
    · exact sa
    · unfold rf0
      by_cases c : (1 : Int) < n
      · rw [if_pos c]
        have lp : 0 < l := by
          have := (Int.le_ediv_iff_mul_le (show 0 < h - l by omega)).mp (show (2 : Int) ≤ h / (h - l) by omega)
          omega
        obtain ⟨_, _, a, b, _⟩ := lowR_spec (x := l) (y := (n : Int) - 1) lp (by omega)
        exact ⟨by omega, by omega⟩
      · rw [if_neg c]; exact sa
theorem eqD_pieces : ∀ {R : List (Cut × Cut)}, eqD (.lst (piecesD R)) (.lst []) = R.isEmpty
  | [] => rfl
  | _ :: _ => rfl
theorem eqD_cut (p q : Rt) (f g : Bool) : eqD (.tup [prD p, .bl f]) (.tup [prD q, .bl g]) = (eqD (prD p) (prD q) && ((f == g) && true)) := by
  show (eqD (prD p) (prD q) && (eqD (.bl f) (.bl g) && true)) = _
  rw [eqD_bl]
theorem vr_cons {l h : Int} (h0 : 0 ≤ l) (hlh : l < h) (hh : h ≤ 1000) : BsOk [(l, h)] := ⟨fun p hp => by rw [List.mem_singleton.mp hp]; exact ⟨h0, hlh, hh⟩, List.pairwise_singleton _ _⟩
def rd__law_single_right (C : Cl) : PTS := (dSeq (dSet 1 (dCall sp_take [] (dCons (dVar 0) (dCons (dCall sp_pick [] (dCons (dVar 0) (dCons (dL (dLst (dCons (dC (.int 10)) (dCons (dC (.int 100)) (dCons (dC (.int 1000)) dNil))))) dNil))) dNil))))
    (dSeq (dSet 2 (dOp fMin2 (dC (.int 1000)) (dOp fAdd (dOp fAdd (dVar 1) (dC (.int 1))) (dCall sp_take [] (dCons (dVar 0) (dCons (dCall sp_pick [] (dCons (dVar 0) (dCons (dL (dLst (dCons (dC (.int 2)) (dCons (dC (.int 5)) (dCons (dC (.int 40)) dNil))))) dNil))) dNil))))))
    (dSeq (dPar 3 4 (dCons (dCall (sp__law_rate C) [] (dCons (dVar 0) dNil)) (dCons (dTup (dCons (dOp fAdd (dOp fAdd (dVar 2) (dC (.int 1))) (dCall sp_take [] (dCons (dVar 0) (dCons (dC (.int 50)) dNil)))) (dCons (dC (.int 1)) dNil))) dNil)))
    (dSeq (dIfS (dTst (dCall (sp__law_less C) [] (dCons (dVar 4) (dCons (dVar 3) dNil)))) (dSet 3 (dTup (dCons (dC (.int 1)) (dCons (dC (.int 1)) dNil)))) dNext)
    (dSeq (dSet 5 (dCall (sp__law_alone C) [] (dCons (dVar 1) (dCons (dVar 2) (dCons (dVar 3) (dCons (dVar 4) dNil))))))
    (dSeq (dIfS (dTst (dOp fNeS (dB1 fRepr (dCall (sp_clear_halves C) [] (dCons (dL (dLst (dCons (dTup (dCons (dVar 1) (dCons (dVar 2) dNil))) dNil))) (dCons (dVar 3) (dCons (dVar 4) dNil))))) (dB1 fRepr (dVar 5)))) (dRet (dC (.bl false))) dNext)
    (dRet (dOrV (dOp fEq (dVar 5) (dL (dLst dNil))) (dOp fEq (dCall (sp_least_clear C) [] (dCons (dL (dLst (dCons (dTup (dCons (dVar 1) (dCons (dVar 2) dNil))) dNil))) (dCons (dVar 3) dNil))) (dTup (dCons (dOp fIx (dOp fIx (dVar 5) (dC (.int 0))) (dC (.int 0))) (dCons (dC (.bl true)) dNil))))))))))))
def rd_s2 (C : Cl) : PTS := (dSeq (dPar 3 4 (dCons (dCall (sp__law_rate C) [] (dCons (dVar 0) dNil)) (dCons (dTup (dCons (dOp fAdd (dOp fAdd (dVar 2) (dC (.int 1))) (dCall sp_take [] (dCons (dVar 0) (dCons (dC (.int 50)) dNil)))) (dCons (dC (.int 1)) dNil))) dNil)))
    (dSeq (dIfS (dTst (dCall (sp__law_less C) [] (dCons (dVar 4) (dCons (dVar 3) dNil)))) (dSet 3 (dTup (dCons (dC (.int 1)) (dCons (dC (.int 1)) dNil)))) dNext)
    (dSeq (dSet 5 (dCall (sp__law_alone C) [] (dCons (dVar 1) (dCons (dVar 2) (dCons (dVar 3) (dCons (dVar 4) dNil))))))
    (dSeq (dIfS (dTst (dOp fNeS (dB1 fRepr (dCall (sp_clear_halves C) [] (dCons (dL (dLst (dCons (dTup (dCons (dVar 1) (dCons (dVar 2) dNil))) dNil))) (dCons (dVar 3) (dCons (dVar 4) dNil))))) (dB1 fRepr (dVar 5)))) (dRet (dC (.bl false))) dNext)
    (dRet (dOrV (dOp fEq (dVar 5) (dL (dLst dNil))) (dOp fEq (dCall (sp_least_clear C) [] (dCons (dL (dLst (dCons (dTup (dCons (dVar 1) (dCons (dVar 2) dNil))) dNil))) (dCons (dVar 3) dNil))) (dTup (dCons (dOp fIx (dOp fIx (dVar 5) (dC (.int 0))) (dC (.int 0))) (dCons (dC (.bl true)) dNil))))))))))
def sp__law_single_right (C : Cl) : PSp := fun ds M q _ => ar1 ds fun d => asDraw d M (q (.bl true) M)
theorem lg {n : Int} (h0 : 0 ≤ n) (h : n ≤ 1000000) : n.natAbs.log2 < 9000 := by
  have e : (2 : Nat) ^ 20 = 1048576 := by decide
  have a : n.natAbs < 2 ^ 20 := by omega
  have := PySem.Flt.log2_lt_of (by decide) a
  omega
theorem single_rest {C : Cl} {w : PWi} {P : PEnds} {M : Mm} {a : Addr} {l h : Int} (hm : M a = some .draw) (h0 : 0 ≤ l) (hlh : l < h) (hh : h ≤ 1000) (hP : P.rt (.bl true) M) : rd_s2 C w P [some (.val (.raw (.ref a))), some (.val (.int l)), some (.val (.int h)), none, none, none] M := by
  have two : (2 : Nat) ≤ 1000000 := by decide
  have one : (1 : Nat) ≤ 1000000 := by decide
  refine ⟨hm, fun u v hr => ⟨hm, ⟨by decide, lg (by decide) (by decide)⟩, fun k k0 k1 => ⟨two, ?_⟩⟩⟩
  obtain ⟨⟨u0, u1, v0, v1⟩, u2, us, v2⟩ := hr
  have vf : VR (u, v) := spd_vr us u0
  have va : VR (h + 1 + k, 1) := vr_one (by omega)
  have ssa : szS (h + 1 + k, 1) := ⟨by show h + 1 + k ≤ 10 ^ 20; omega, by show (1 : Int) ≤ 10 ^ 20; decide⟩
  have up : ∀ p : Rt, szS p → szR p := fun p z => ⟨by have := z.1; omega, by have := z.2; omega⟩
  -- behind the choice of the first rate
  have tail : ∀ f : Rt, VR f → szS f → ¬ ltR (h + 1 + k, 1) f → (dSeq (dSet 5 (dCall (sp__law_alone C) [] (dCons (dVar 1) (dCons (dVar 2) (dCons (dVar 3) (dCons (dVar 4) dNil))))))
    (dSeq (dIfS (dTst (dOp fNeS (dB1 fRepr (dCall (sp_clear_halves C) [] (dCons (dL (dLst (dCons (dTup (dCons (dVar 1) (dCons (dVar 2) dNil))) dNil))) (dCons (dVar 3) (dCons (dVar 4) dNil))))) (dB1 fRepr (dVar 5)))) (dRet (dC (.bl false))) dNext)
    (dRet (dOrV (dOp fEq (dVar 5) (dL (dLst dNil))) (dOp fEq (dCall (sp_least_clear C) [] (dCons (dL (dLst (dCons (dTup (dCons (dVar 1) (dCons (dVar 2) dNil))) dNil))) (dCons (dVar 3) dNil))) (dTup (dCons (dOp fIx (dOp fIx (dVar 5) (dC (.int 0))) (dC (.int 0))) (dCons (dC (.bl true)) dNil)))))))) w P
      [some (.val (.raw (.ref a))), some (.val (.int l)), some (.val (.int h)), some (.val (prD f)), some (.val (prD (h + 1 + k, 1))), none] M := by
    intro f vf sf nl
    have hb := vr_cons h0 hlh hh
    have vf' : VC (f, true) := vf
    have va' : VC ((h + 1 + k, 1), false) := va
    have due := due_clr h0 hlh hh vf va (up _ sf) (up _ ssa)
    have sz := due_szS h0 hlh hh vf va sf ssa
    have hlen := dueR_len (l := l) (h := h) (fr := f) (la := (h + 1 + k, 1)) (h / (h - l)).toNat
    have hN1 : h / (h - l) ≤ h := Int.ediv_le_self _ (by omega)
    refine ⟨⟨h0, hlh, hh, vf, va, up _ sf, up _ ssa⟩, ?_⟩
    generalize hR : dueR l h f (h + 1 + k, 1) (h / (h - l)).toNat = R at due sz hlen
    have hw : Shk 3 (277 * R.length) (.lst (piecesD R)) := Shk.pieces fun p hp => by
      obtain ⟨a1, a2, _⟩ := due.pcs.el p hp
      exact ⟨a1, a2, sz p hp⟩
    have hw2 : Shk 3 (277 * R.length) (.lst (piecesD R)) := hw
    have ok50 : okD 50 (.lst (piecesD R)) = true := okD_mono 3 50 _ (by decide) hw.ok
    have shw : showOk (toPy (.lst (piecesD R))) := hw.show (by omega)
    have first : ∀ p ∈ R, p.1.2 = true := fun p hp => by
      rw [← hR] at hp
      obtain ⟨n, _, _, z⟩ := dueR_mem.mp hp
      rw [pcR_mem] at z
      rw [z.1]
    refine ⟨two, one, [(l, h)], .inl rfl, ⟨hb, show (0 : Nat) < 1 by decide, show (1 : Nat) ≤ 4 by decide, vf, up _ sf, va, up _ ssa, nl⟩, fun R' hR' _ => ?_⟩
    have eR : R' = R := hR'.uniq cutO vf' va' due
    subst eR
    refine ⟨ok50, shw, ok50, shw, itF (by rw [decide_eq_true rfl]; rfl) ?_⟩
    refine ⟨Nat.zero_le _, by rw [ok50]; rfl, ?_⟩
    rw [eqD_pieces]
    cases R' with
    | nil => exact hP
    | cons p r =>
      refine ⟨two, one, [(l, h)], .inl rfl, ⟨hb, show (0 : Nat) < 1 by decide, show (1 : Nat) ≤ 4 by decide, vf, up _ sf⟩, fun c vc sc k1 k2 k3 => ?_⟩
      obtain ⟨w1, w2⟩ := due.head cutO vf' va'
      have vp := (due.pcs.el p List.mem_cons_self).1
      have lp := (due.pcs.el p List.mem_cons_self).2.2.2.1
      have ec : c = p.1 := by
        rcases cutO.tot c p.1 vc vp with z | z | z
        · exact absurd k2 (w2 c vc k1 z)
        · exact z
        · exact absurd w1 (k3 p.1 vp lp z)
      subst ec
      have pf := first p List.mem_cons_self
      refine ⟨pieceD p, atI_nat (j := 0) rfl, prD p.1.1, atI_nat (j := 0) rfl, two, ?_, ?_⟩
      · rfl
      · have e : eqD (.tup [prD p.1.1, .bl p.1.2]) (.tup [prD p.1.1, .bl true]) = true := by
          rw [eqD_cut, eqD_int2, pf, decide_eq_true rfl, decide_eq_true rfl]; rfl
        have z : P.rt (.bl (eqD (.tup [prD p.1.1, .bl p.1.2]) (.tup [prD p.1.1, .bl true]))) M := by rw [e]; exact hP
        exact z
  refine ⟨⟨Sz.of (by omega) (by omega), sz_lit, Sz.of (by omega) (by omega), Sz.of (by omega) (by omega)⟩, ?_⟩
  by_cases c : (h + 1 + k) * v < u * 1
  · refine itT (decide_eq_true c) ⟨two, tail (1, 1) (vr_one (by decide)) ⟨by decide, by decide⟩ fun z => ?_⟩
    have z : (h + 1 + k) * 1 < 1 * 1 := z
    omega
  · exact itF (decide_eq_false c) (tail (u, v) vf ⟨u2, v2⟩ c)
theorem sh__law_single_right (C : Cl) : Shows (sp__law_single_right C) 6 (rd__law_single_right C) := by
  intro ds M q e g0
  obtain ⟨d, rfl, g1⟩ := ar1_of g0
  obtain ⟨a, rfl, hm, hq⟩ := asDraw_of g1
  refine ⟨by simp, hm, ⟨by simp, by simp⟩, fun x hx => ?_⟩
  obtain ⟨n, rfl, n1, n2⟩ : ∃ n : Int, x = .int n ∧ 1 ≤ n ∧ n ≤ 1000 := by
    simp only [List.mem_cons, List.not_mem_nil, or_false] at hx
    rcases hx with rfl | rfl | rfl <;> exact ⟨_, rfl, by decide, by decide⟩
  refine ⟨hm, ⟨by omega, lg (by omega) (by omega)⟩, fun l l0 l1 => ?_⟩
  refine ⟨by simp, hm, ⟨by simp, by simp⟩, fun x hx => ?_⟩
  obtain ⟨n', rfl, n3, n4⟩ : ∃ n : Int, x = .int n ∧ 1 ≤ n ∧ n ≤ 40 := by
    simp only [List.mem_cons, List.not_mem_nil, or_false] at hx
    rcases hx with rfl | rfl | rfl <;> exact ⟨_, rfl, by decide, by decide⟩
  refine ⟨hm, ⟨by omega, lg (by omega) (by omega)⟩, fun k k0 k1 => ?_⟩
  exact single_rest (C := C) hm l0 (by split <;> omega) (by split <;> omega) ⟨M, MLe.refl M, hq⟩
end Px

set_option Elab.async false
set_option linter.all false
set_option maxRecDepth 100000
namespace Px
open PySem PySem.Spec PyProof.Rows L2
/-! # bands and rates times a number -/
def scB (t : Int) (bs : Bs) : Bs := bs.map fun p => (p.1 * t, p.2 * t)
def scR (t : Int) (p : Rt) : Rt := lowR (p.1 * t) p.2
def scC (t : Int) (c : Cut) : Cut := (scR t c.1, c.2)
def scW (t : Int) (w : Wn) : Wn := ⟨w.lo * t, w.hi * t, w.str⟩
section
variable {t : Int} (ht : 1 ≤ t)
include ht
theorem scR_is {p : Rt} (vp : VR p) : VR (scR t p) ∧ p.1 * t * (scR t p).2 = (scR t p).1 * p.2 := by
  obtain ⟨a, b, _⟩ := lowR_spec (x := p.1 * t) (y := p.2) (Int.mul_pos vp.1 (by omega)) vp.2.1
  exact ⟨a, b⟩
theorem sc_le2 {p : Rt} (vp : VR p) {x n : Int} : (x * t * (scR t p).2 < n * (scR t p).1 ↔ x * p.2 < n * p.1) ∧ (x * t * (scR t p).2 ≤ n * (scR t p).1 ↔ x * p.2 ≤ n * p.1) ∧ (n * (scR t p).1 < x * t * (scR t p).2 ↔ n * p.1 < x * p.2) ∧ (n * (scR t p).1 ≤ x * t * (scR t p).2 ↔ n * p.1 ≤ x * p.2) := by
  obtain ⟨⟨u0, v0, _⟩, e⟩ := scR_is ht vp
  have k0 : 0 < t * (scR t p).2 := Int.mul_pos (by omega) v0
  have e1 : x * t * (scR t p).2 * p.2 = x * p.2 * (t * (scR t p).2) := by grind
  have e2 : n * (scR t p).1 * p.2 = n * p.1 * (t * (scR t p).2) := by grind
  have p2 := vp.2.1
  refine ⟨?_, ?_, ?_, ?_⟩
  · rw [sc_lt p2, e1, e2, ← sc_lt k0]
  · rw [sc_le p2, e1, e2, ← sc_le k0]
  · rw [sc_lt p2, e1, e2, ← sc_lt k0]
  · rw [sc_le p2, e1, e2, ← sc_le k0]
theorem scW_in {w : Wn} {c : Cut} (vc : VC c) {n : Int} : inW (scW t w) (scC t c) n ↔ inW w c n := by
  have a := fun x => sc_le2 ht vc (x := x) (n := 2 * n)
  unfold inW scW scC
  dsimp only
  rw [(a w.lo).1, (a w.lo).2.1, (a w.hi).2.2.1, (a w.hi).2.2.2]
theorem wins_sc : ∀ bs : Bs, wins (scB t bs) = (wins bs).map (scW t)
  | [] => rfl
  | p :: r => by
    have ih := wins_sc r
    unfold scB at ih ⊢
    rw [List.map_cons]
    unfold wins
    rw [ih, List.map_cons, List.map_append]
    congr 1
    · unfold scW
      dsimp only
      rw [Int.mul_assoc, Int.mul_assoc]
    · congr 1
      clear ih
      induction r with
      | nil => rfl
      | cons q r ih =>
        rw [List.map_cons, List.flatMap_cons, List.flatMap_cons, List.map_append, ih]
        congr 1
        unfold pairW scW
        dsimp only [List.map_cons, List.map_nil]
        rw [← Int.add_mul, ← Int.add_mul, ← Int.sub_mul, ← Int.sub_mul]
        rfl
theorem sc_clr {bs : Bs} {c : Cut} (vc : VC c) : clrC (wins (scB t bs)) (scC t c) ↔ clrC (wins bs) c := by
  rw [wins_sc ht]
  unfold clrC
  constructor
  · intro h w hw n hn hin
    exact h (scW t w) (List.mem_map.mpr ⟨w, hw, rfl⟩) n hn ((scW_in ht vc).mpr hin)
  · intro h w hw n hn hin
    obtain ⟨w0, hw0, rfl⟩ := List.mem_map.mp hw
    exact h w0 hw0 n hn ((scW_in ht vc).mp hin)
theorem sc_lt_iff {p q : Rt} (vp : VR p) (vq : VR q) : ltR (scR t p) (scR t q) ↔ ltR p q := by
  obtain ⟨⟨u0, v0, _⟩, e⟩ := scR_is ht vp
  obtain ⟨⟨u1, v1, _⟩, e'⟩ := scR_is ht vq
  unfold ltR
  have p2 := vp.2.1
  have q2 := vq.2.1
  have k0 : 0 < p.2 * q.2 := Int.mul_pos p2 q2
  have k1 : 0 < t * ((scR t p).2 * (scR t q).2) := Int.mul_pos (by omega) (Int.mul_pos v0 v1)
  rw [sc_lt k0, sc_lt (x := p.1 * q.2) k1]
  have e1 : (scR t p).1 * (scR t q).2 * (p.2 * q.2) = p.1 * q.2 * (t * ((scR t p).2 * (scR t q).2)) := by grind
  have e2 : (scR t q).1 * (scR t p).2 * (p.2 * q.2) = q.1 * p.2 * (t * ((scR t p).2 * (scR t q).2)) := by grind
  rw [e1, e2]
theorem sc_inj {p q : Rt} (vp : VR p) (vq : VR q) (h : scR t p = scR t q) : p = q := by
  rcases ltR_tot vp vq with z | z | z
  · rw [← sc_lt_iff ht vp vq, h] at z; exact (ltR_irr _ z).elim
  · exact z
  · rw [← sc_lt_iff ht vq vp, h] at z; exact (ltR_irr _ z).elim
theorem scC_lt {x y : Cut} (vx : VC x) (vy : VC y) : ltC (scC t x) (scC t y) ↔ ltC x y := by
  unfold ltC scC
  dsimp only
  rw [sc_lt_iff ht vx vy]
  constructor
  · rintro (h | ⟨e, h⟩)
    · exact .inl h
    · exact .inr ⟨sc_inj ht vx vy e, h⟩
  · rintro (h | ⟨e, h⟩)
    · exact .inl h
    · exact .inr ⟨by rw [e], h⟩
theorem scC_le {x y : Cut} (vx : VC x) (vy : VC y) : leO ltC (scC t x) (scC t y) ↔ leO ltC x y := by
  unfold leO
  rw [scC_lt ht vx vy]
  constructor
  · rintro (h | h)
    · left
      unfold scC at h
      injection h with h1 h2
      exact Prod.ext (sc_inj ht vx vy h1) h2
    · exact .inr h
  · rintro (h | h)
    · exact .inl (by rw [h])
    · exact .inr h
theorem sc_onto {c : Cut} (vc : VC c) : ∃ d, VC d ∧ scC t d = c := by
  obtain ⟨p, f⟩ := c
  have vp : VR p := vc
  obtain ⟨a, b, _⟩ := lowR_spec (x := p.1) (y := p.2 * t) vp.1 (Int.mul_pos vp.2.1 (by omega))
  refine ⟨(lowR p.1 (p.2 * t), f), a, ?_⟩
  generalize lowR p.1 (p.2 * t) = q at a b
  unfold scC
  dsimp only
  congr 1
  obtain ⟨v, e⟩ := scR_is ht a
  refine low_uniq v vp ?_
  refine Int.eq_of_mul_eq_mul_right (a := q.2) (by have := a.2.1; omega) ?_
  have e1 : (scR t q).1 * p.2 * q.2 = (scR t q).1 * q.2 * p.2 := by grind
  have e2 : p.1 * (scR t q).2 * q.2 = p.1 * q.2 * (scR t q).2 := by grind
  rw [e1, ← e, e2, b]
  grind
def scP (t : Int) (p : Cut × Cut) : Cut × Cut := (scC t p.1, scC t p.2)
theorem sc_isClr {bs : Bs} {l h : Rt} (vl : VR l) (vh : VR h) {R : List (Cut × Cut)} (H : IsClr bs l h R) : ClrP VC ltC (fun _ => True) (clrC (wins (scB t bs))) (scR t l, true) (scR t h, false) (R.map (scP t)) := by
  have vl' : VC (l, true) := vl
  have vh' : VC (h, false) := vh
  have vs : ∀ {c : Cut}, VC c → VC (scC t c) := fun vc => (scR_is ht vc).1
  refine ⟨⟨?_, fun p hp => ?_⟩, fun p _ => ⟨trivial, trivial⟩, fun d vd k1 k2 => ?_⟩
  · rw [List.pairwise_map]
    refine H.pcs.pw.imp_of_mem fun hp hq z => ?_
    exact (scC_lt ht (H.pcs.el _ hp).2.1 (H.pcs.el _ hq).1).mpr z
  · obtain ⟨q, hq, rfl⟩ := List.mem_map.mp hp
    obtain ⟨v1, v2, v3, v4, v5⟩ := H.pcs.el q hq
    exact ⟨vs v1, vs v2, (scC_lt ht v1 v2).mpr v3, (scC_le ht vl' v1).mpr v4, (scC_le ht v2 vh').mpr v5⟩
  · obtain ⟨c, vc, rfl⟩ := sc_onto ht vd
    have k1 := (scC_le ht vl' vc).mp k1
    have k2 := (scC_lt ht vc vh').mp k2
    rw [sc_clr ht vc, ← H.iff c vc k1 k2]
    unfold cov
    constructor
    · rintro ⟨p, hp, z1, z2⟩
      obtain ⟨q, hq, rfl⟩ := List.mem_map.mp hp
      obtain ⟨v1, v2, _⟩ := H.pcs.el q hq
      exact ⟨q, hq, (scC_le ht v1 vc).mp z1, (scC_lt ht vc v2).mp z2⟩
    · rintro ⟨q, hq, z1, z2⟩
      obtain ⟨v1, v2, _⟩ := H.pcs.el q hq
      exact ⟨scP t q, List.mem_map.mpr ⟨q, hq, rfl⟩, (scC_le ht v1 vc).mpr z1, (scC_lt ht vc v2).mpr z2⟩
theorem scB_ok {bs : Bs} (hb : BsOk bs) (hm : ∀ p ∈ bs, p.2 * t ≤ 1000) : BsOk (scB t bs) := by
  refine ⟨fun p hp => ?_, ?_⟩
  · obtain ⟨q, hq, rfl⟩ := List.mem_map.mp hp
    obtain ⟨b1, b2, b3⟩ := hb.1 q hq
    exact ⟨Int.mul_nonneg b1 (by omega), Int.mul_lt_mul_of_pos_right b2 (by omega), hm q hq⟩
  · unfold scB
    rw [List.pairwise_map]
    exact hb.2.imp fun z => Int.mul_lt_mul_of_pos_right z (by omega)
end
theorem last_top {p : Int × Int} : ∀ {bs : Bs}, BsOk bs → bs.getLast? = some p → ∀ q ∈ bs, q.2 ≤ p.2
  | [x], _, e, q, hq => by
    cases e
    rw [List.mem_singleton.mp hq]
    exact Int.le_refl _
  | x :: y :: r, hb, e, q, hq => by
    obtain ⟨_, hr, hlt⟩ := hb.cons
    have e : (y :: r).getLast? = some p := by rw [List.getLast?_cons_cons] at e; exact e
    have ih := last_top hr e
    rcases List.mem_cons.mp hq with rfl | hq
    · have a := hlt y List.mem_cons_self
      have b := (hr.1 y List.mem_cons_self).2.1
      have c := ih y List.mem_cons_self
      omega
    · exact ih q hq
/-! # bands two by two -/
def oneF (c : Cut) (p : Int × Int) : Prop := ∀ n : Int, 1 ≤ n → ¬ inW ⟨2 * p.1, 2 * p.2, true⟩ c n
def twoF (c : Cut) (p q : Int × Int) : Prop := clrC (pairW p q) c
theorem clr_two {c : Cut} : ∀ bs : Bs, clrC (wins bs) c ↔ (∀ p ∈ bs, oneF c p) ∧ bs.Pairwise (twoF c)
  | [] => ⟨fun _ => ⟨fun p h => (nomatch h), List.Pairwise.nil⟩, fun _ => clr_nil⟩
  | p :: r => by
    have ih := clr_two (c := c) r
    have fm : ∀ l : Bs, clrC (l.flatMap (pairW p)) c ↔ ∀ q ∈ l, twoF c p q := by
      intro l
      induction l with
      | nil => exact ⟨fun _ q h => (nomatch h), fun _ => clr_nil⟩
      | cons x l ih =>
        rw [List.flatMap_cons, clr_app, ih]
        constructor
        · rintro ⟨a, b⟩ q hq
          rcases List.mem_cons.mp hq with rfl | hq
          · exact a
          · exact b q hq
        · exact fun h => ⟨h x List.mem_cons_self, fun q hq => h q (List.mem_cons_of_mem _ hq)⟩
    unfold wins
    rw [clr_cons, clr_app, fm, ih, List.pairwise_cons]
    constructor
    · rintro ⟨a, b, d, e⟩
      refine ⟨fun q hq => ?_, b, e⟩
      rcases List.mem_cons.mp hq with rfl | hq
      · exact a
      · exact d q hq
    · rintro ⟨a, b, e⟩
      exact ⟨a p List.mem_cons_self, b, fun q hq => a q (List.mem_cons_of_mem _ hq), e⟩
/-- each one with those ahead of it -/
def prsL (pre : Bs) : Bs → List Bs
  | [] => []
  | q :: r => (pre.map fun x => [x, q]) ++ prsL (pre ++ [q]) r
theorem prs_clr {c : Cut} : ∀ (r pre : Bs), pre ≠ [] → (((∀ pr ∈ prsL pre r, clrC (wins pr) c) ∧ (∀ p ∈ pre, oneF c p) ∧ pre.Pairwise (twoF c)) ↔ (∀ p ∈ pre ++ r, oneF c p) ∧ (pre ++ r).Pairwise (twoF c))
  | [], pre, _ => by
    rw [List.append_nil]
    exact ⟨fun h => h.2, fun h => ⟨fun pr hp => (nomatch hp), h⟩⟩
  | q :: r, pre, hne => by
    have ih := prs_clr (c := c) r (pre ++ [q]) (by simp)
    rw [List.append_assoc] at ih
    have e : [q] ++ r = q :: r := rfl
    rw [e] at ih
    rw [← ih]
    have pw : ∀ x : Int × Int, clrC (wins [x, q]) c ↔ oneF c x ∧ oneF c q ∧ twoF c x q := fun x => by
      rw [clr_two]
      constructor
      · rintro ⟨a, b⟩
        exact ⟨a x (by simp), a q (by simp), (List.pairwise_cons.mp b).1 q (by simp)⟩
      · rintro ⟨a, b, d⟩
        refine ⟨fun p hp => ?_, List.pairwise_cons.mpr ⟨fun p hp => ?_, List.pairwise_singleton _ _⟩⟩
        · simp only [List.mem_cons, List.not_mem_nil, or_false] at hp
          rcases hp with rfl | rfl
          · exact a
          · exact b
        · rw [List.mem_singleton.mp hp]; exact d
    obtain ⟨x0, hx0⟩ := List.exists_mem_of_ne_nil pre hne
    constructor
    · rintro ⟨h1, h2, h3⟩
      have h1' : ∀ x ∈ pre, oneF c x ∧ oneF c q ∧ twoF c x q := fun x hx => (pw x).mp (h1 _ (List.mem_append_left _ (List.mem_map.mpr ⟨x, hx, rfl⟩)))
      refine ⟨fun pr hp => h1 pr (List.mem_append_right _ hp), fun p hp => ?_, List.pairwise_append.mpr ⟨h3, List.pairwise_singleton _ _, fun x hx y hy => ?_⟩⟩
      · rcases List.mem_append.mp hp with hp | hp
        · exact h2 p hp
        · rw [List.mem_singleton.mp hp]; exact (h1' x0 hx0).2.1
      · rw [List.mem_singleton.mp hy]; exact (h1' x hx).2.2
    · rintro ⟨h1, h2, h3⟩
      obtain ⟨g1, _, g3⟩ := List.pairwise_append.mp h3
      refine ⟨fun pr hp => ?_, fun p hp => h2 p (List.mem_append_left _ hp), g1⟩
      rcases List.mem_append.mp hp with hp | hp
      · obtain ⟨x, hx, rfl⟩ := List.mem_map.mp hp
        exact (pw x).mpr ⟨h2 x (List.mem_append_left _ hx), h2 q (by simp), g3 x hx q (by simp)⟩
      · exact h1 pr hp
theorem prs_ok : ∀ (r pre : Bs), BsOk (pre ++ r) → ∀ pr ∈ prsL pre r, BsOk pr ∧ pr.length = 2
  | [], pre, _, pr, h => (nomatch h)
  | q :: r, pre, hb, pr, h => by
    rcases List.mem_append.mp h with h | h
    · obtain ⟨x, hx, rfl⟩ := List.mem_map.mp h
      obtain ⟨_, _, g3⟩ := List.pairwise_append.mp hb.2
      refine ⟨⟨fun p hp => ?_, List.pairwise_cons.mpr ⟨fun p hp => ?_, List.pairwise_singleton _ _⟩⟩, rfl⟩
      · simp only [List.mem_cons, List.not_mem_nil, or_false] at hp
        rcases hp with rfl | rfl
        · exact hb.1 _ (List.mem_append_left _ hx)
        · exact hb.1 _ (by simp)
      · rw [List.mem_singleton.mp hp]; exact g3 x hx q (by simp)
    · refine prs_ok r (pre ++ [q]) ?_ pr h
      rw [List.append_assoc]
      exact hb
theorem prs_len : ∀ (r pre : Bs), pre.length + r.length ≤ 4 → (prsL pre r).length ≤ 16
  | [], _, _ => Nat.zero_le _
  | [a], pre, h => by simp only [prsL, List.length_append, List.length_map, List.length_nil, List.length_cons] at h ⊢; omega
  | [a, b], pre, h => by simp only [prsL, List.length_append, List.length_map, List.length_nil, List.length_cons] at h ⊢; omega
  | [a, b, c], pre, h => by simp only [prsL, List.length_append, List.length_map, List.length_nil, List.length_cons] at h ⊢; omega
  | [a, b, c, d], pre, h => by simp only [prsL, List.length_append, List.length_map, List.length_nil, List.length_cons] at h ⊢; omega
  | a :: b :: c :: d :: e :: r, pre, h => by simp only [List.length_cons] at h; omega
theorem all_prs {a b : Int} (ha : 0 < a) (hb0 : 0 < b) {p : Int × Int} {r : Bs} (hb : BsOk (p :: r)) : (([p] :: prsL [] (p :: r)).all fun pr => clearB a b pr) = clearB a b (p :: r) := by
  have ok : ∀ pr ∈ [p] :: prsL [] (p :: r), BsOk pr := fun pr hp => by
    rcases List.mem_cons.mp hp with rfl | hp
    · exact ⟨fun x hx => by rw [List.mem_singleton.mp hx]; exact hb.1 p List.mem_cons_self, List.pairwise_singleton _ _⟩
    · exact (prs_ok (p :: r) [] hb pr hp).1
  rw [Bool.eq_iff_iff, List.all_eq_true, clear_win ha hb0 _ hb, clr_two]
  have key := prs_clr (c := ((a, b), true)) r [p] (by simp)
  have e : [p] ++ r = p :: r := rfl
  rw [e] at key
  rw [← key]
  constructor
  · intro h
    have h' : ∀ pr ∈ [p] :: prsL [] (p :: r), clrC (wins pr) ((a, b), true) := fun pr hp => (clear_win ha hb0 pr (ok pr hp)).mp (h pr hp)
    refine ⟨fun pr hp => h' pr (List.mem_cons_of_mem _ hp), fun x hx => ?_, List.pairwise_singleton _ _⟩
    rw [List.mem_singleton.mp hx]
    exact ((clr_two [p]).mp (h' [p] List.mem_cons_self)).1 p List.mem_cons_self
  · rintro ⟨h1, h2, _⟩ pr hp
    rw [clear_win ha hb0 pr (ok pr hp)]
    rcases List.mem_cons.mp hp with rfl | hp
    · exact (clr_two [p]).mpr ⟨h2, List.pairwise_singleton _ _⟩
    · exact h1 pr hp
end Px

set_option Elab.async false
set_option linter.all false
set_option maxRecDepth 100000
namespace Px
open PySem PySem.Spec PyProof.Rows L2
theorem top_at {bs : Bs} (hb : BsOk bs) (h0 : 0 < bs.length) : ∃ p ∈ bs, atI (bsD bs) (-1) = some (prD p) ∧ ∀ x ∈ bs, x.2 ≤ p.2 := by
  have hlen : (bsD bs).length = bs.length := List.length_map ..
  refine ⟨bs[bs.length - 1], List.getElem_mem _, ?_, last_top hb ?_⟩
  · unfold atI ixN
    rw [if_neg (by omega), if_pos (by omega)]
    have e : (-1 + ((bsD bs).length : Int)).toNat = bs.length - 1 := by omega
    show (bsD bs)[(-1 + ((bsD bs).length : Int)).toNat]? = _
    rw [e]
    unfold bsD
    rw [List.getElem?_map, List.getElem?_eq_getElem (by omega)]
    rfl
  · rw [List.getLast?_eq_getElem?, List.getElem?_eq_getElem (by omega)]
theorem eqv_lst (x y : D) (r s : List D) : eqD (.lst (x :: r)) (.lst (y :: s)) = (eqD x y && eqD (.lst r) (.lst s)) := rfl
theorem eqD_piece (p : Cut × Cut) : eqD (pieceD p) (pieceD p) = true := by
  show (eqD (prD p.1.1) (prD p.1.1) && (eqD (.bl p.1.2) (.bl p.1.2) && (eqD (prD p.2.1) (prD p.2.1) && (eqD (.bl (!p.2.2)) (.bl (!p.2.2)) && true)))) = true
  rw [eqD_int2, eqD_int2, eqD_bl, eqD_bl]
  simp
theorem eqD_selfP : ∀ R : List (Cut × Cut), eqD (.lst (piecesD R)) (.lst (piecesD R)) = true
  | [] => rfl
  | p :: r => by
    show eqD (.lst (pieceD p :: piecesD r)) (.lst (pieceD p :: piecesD r)) = true
    rw [eqv_lst, eqD_piece, eqD_selfP r]
    rfl
theorem okD_pieces (R : List (Cut × Cut)) : okD 50 (.lst (piecesD R)) = true := by
  refine okD_mono 3 50 _ (by decide) ?_
  show (piecesD R).all (okD 2) = true
  rw [List.all_eq_true]
  intro d hd
  obtain ⟨p, _, rfl⟩ := List.mem_map.mp hd
  rfl
theorem okD_bs (bs : Bs) : okD 2 (.lst (bsD bs)) = true := by
  show (bsD bs).all (okD 1) = true
  rw [List.all_eq_true]
  intro d hd
  obtain ⟨p, _, rfl⟩ := List.mem_map.mp hd
  rfl
def rd_t1 (C : Cl) : PTS := (dApp 10 (dTup (dCons (dCall (sp__law_times C) [] (dCons (dVar 11) (dCons (dVar 4) dNil))) (dCons (dVar 12) (dCons (dCall (sp__law_times C) [] (dCons (dVar 13) (dCons (dVar 4) dNil))) (dCons (dVar 14) dNil))))))
def rd_A2 (C : Cl) : PTS := (dSeq (dSetO 10 (dLst dNil))
    (dSeq (dFor (iA (dCall (sp_clear_halves C) [] (dCons (dVar 3) (dCons (dVar 8) (dCons (dVar 9) dNil))))) (gTp 4 (gsCons (gNm 11) (gsCons (gNm 12) (gsCons (gNm 13) (gsCons (gNm 14) gsNil))))) (rd_t1 C))
    (dIfS (dTst (dOp fNe (dCall (sp_clear_halves C) [] (dCons (dVar 5) (dCons (dCall (sp__law_times C) [] (dCons (dVar 8) (dCons (dVar 4) dNil))) (dCons (dCall (sp__law_times C) [] (dCons (dVar 9) (dCons (dVar 4) dNil))) dNil)))) (dOwn 10))) (dRet (dC (.bl false))) dNext)))
def rd_A (C : Cl) : PTS := (dIfS (dTst (dOp fLe (dOp fMul (dOp fIx (dOp fIx (dVar 3) (dNeg (dC (.int 1)))) (dC (.int 1))) (dVar 4)) (dC (.int 1000)))) (dSeq (dSet 5 (dL (dComp [8, 9] (iA (dVar 3)) (gTp 2 (gsCons (gNm 8) (gsCons (gNm 9) gsNil))) dYes (dTup (dCons (dOp fMul (dVar 8) (dVar 4)) (dCons (dOp fMul (dVar 9) (dVar 4)) dNil))))))
    (dSeq (dPar 6 7 (dCons (dCall (sp__law_near_rate C) [] (dCons (dVar 1) (dCons (dVar 3) dNil))) (dCons (dCall (sp__law_near_rate C) [] (dCons (dVar 1) (dCons (dVar 3) dNil))) dNil)))
    (dSeq (dAsg (dIf (dTst (dCall (sp__law_less C) [] (dCons (dVar 7) (dCons (dVar 6) dNil)))) (dTup (dCons (dVar 7) (dCons (dVar 6) dNil))) (dTup (dCons (dVar 6) (dCons (dVar 7) dNil)))) (gTp 2 (gsCons (gNm 8) (gsCons (gNm 9) gsNil))))
    (rd_A2 C)))) dNext)
theorem times_loop {C : Cl} {w : PWi} {M : Mm} {P : PEnds} {t : Int} (t1 : 1 ≤ t) (t2 : t ≤ 10) {s0 s1 s2 s3 s5 s6 s7 s8 s9 s15 s16 s17 s18 s19 s20 s21 : Option Sv} : ∀ (r acc : List (Cut × Cut)), acc.length + r.length < 1000000 → (∀ p ∈ r, VC p.1 ∧ VC p.2 ∧ szC p.1 ∧ szC p.2) →
    (∀ x11 x12 x13 x14, P.nx [s0, s1, s2, s3, some (.val (.int t)), s5, s6, s7, s8, s9, some (.own (piecesD (acc ++ r.map (scP t)))), x11, x12, x13, x14, s15, s16, s17, s18, s19, s20, s21] M) →
    ∀ x11 x12 x13 x14, forR (gTp 4 (gsCons (gNm 11) (gsCons (gNm 12) (gsCons (gNm 13) (gsCons (gNm 14) gsNil))))) (rd_t1 C) w (piecesD r) P [s0, s1, s2, s3, some (.val (.int t)), s5, s6, s7, s8, s9, some (.own (piecesD acc)), x11, x12, x13, x14, s15, s16, s17, s18, s19, s20, s21] M
  | [], acc, _, _, h, x11, x12, x13, x14 => by
    have h := h x11 x12 x13 x14
    rw [List.map_nil, List.append_nil] at h
    exact h
  | p :: r, acc, hl, hv, h, x11, x12, x13, x14 => by
    have hl : acc.length + (r.length + 1) < 1000000 := hl
    obtain ⟨v1, v2, z1, z2⟩ := hv p List.mem_cons_self
    refine ⟨rfl, trivial, ⟨v1, z1, t1, t2⟩, fun d hd => ?_⟩
    refine ⟨⟨v2, z2, t1, t2⟩, fun d' hd' => ⟨(by show (4 : Nat) ≤ 1000000; decide), ?_, ?_⟩⟩
    · unfold piecesD
      rw [List.length_map]
      omega
    · subst hd
      subst hd'
      have e : piecesD acc ++ [pieceD (scP t p)] = piecesD (acc ++ [scP t p]) := by unfold piecesD; rw [List.map_append]; rfl
      have z := times_loop (C := C) (w := w) (M := M) (P := P) t1 t2 (s0 := s0) (s1 := s1) (s2 := s2) (s3 := s3) (s5 := s5) (s6 := s6) (s7 := s7) (s8 := s8) (s9 := s9) (s15 := s15) (s16 := s16) (s17 := s17) (s18 := s18) (s19 := s19) (s20 := s20) (s21 := s21) r (acc ++ [scP t p]) (by rw [List.length_append, List.length_singleton]; omega) (fun q hq => hv q (List.mem_cons_of_mem _ hq)) (fun x11 x12 x13 x14 => by
        have h := h x11 x12 x13 x14
        rw [List.map_cons] at h
        rw [List.append_assoc]
        exact h) (some (.val (prD p.1.1))) (some (.val (.bl p.1.2))) (some (.val (prD p.2.1))) (some (.val (.bl (!p.2.2))))
      rw [← e] at z
      exact z
theorem law_A2 {C : Cl} {w : PWi} {M : Mm} {P : PEnds} {bs : Bs} {t : Int} (t1 : 1 ≤ t) (t2 : t ≤ 4) (hb : BsOk bs) (h0 : 0 < bs.length) (h4 : bs.length ≤ 4) (hm : ∀ p ∈ bs, p.2 * t ≤ 1000) {l h : Rt} (vl : VR l) (vh : VR h) (sl : szS l) (sh : szS h) (nl : ¬ ltR h l) {s0 s1 s2 s6 s7 x10 x11 x12 x13 x14 s15 s16 s17 s18 s19 s20 s21 : Option Sv}
    (hP : ∀ x10 x11 x12 x13 x14, P.nx [s0, s1, s2, some (.val (.lst (bsD bs))), some (.val (.int t)), some (.val (.lst (bsD (scB t bs)))), s6, s7, some (.val (prD l)), some (.val (prD h)), x10, x11, x12, x13, x14, s15, s16, s17, s18, s19, s20, s21] M) :
    rd_A2 C w P [s0, s1, s2, some (.val (.lst (bsD bs))), some (.val (.int t)), some (.val (.lst (bsD (scB t bs)))), s6, s7, some (.val (prD l)), some (.val (prD h)), x10, x11, x12, x13, x14, s15, s16, s17, s18, s19, s20, s21] M := by
  have up : ∀ p : Rt, szS p → szR p := fun p z => ⟨by have := z.1; omega, by have := z.2; omega⟩
  have sc : ∀ p : Rt, VR p → szS p → szR (scR t p) := fun p vp z => by
    obtain ⟨z1, z2⟩ := z
    have p0 := vp.1
    have b1 : p.1 * t ≤ 10 ^ 20 * 4 := Int.mul_le_mul z1 t2 (by omega) (by decide)
    obtain ⟨_, _, a, b, _⟩ := lowR_spec (x := p.1 * t) (y := p.2) (Int.mul_pos p0 (by omega)) vp.2.1
    exact ⟨by show (scR t p).1 ≤ _; unfold scR; omega, by show (scR t p).2 ≤ _; unfold scR; omega⟩
  have hb' := scB_ok t1 hb hm
  have hl' : (scB t bs).length = bs.length := List.length_map ..
  refine ⟨Nat.zero_le _, bs, .inl rfl, ⟨hb, h0, h4, vl, up l sl, vh, up h sh, nl⟩, fun R hR hlR => ?_⟩
  have big : R.length < 1000000 := by omega
  refine times_loop (C := C) t1 (by omega) R [] (by show 0 + R.length < _; omega) (fun p hp => ?_) (fun x11 x12 x13 x14 => ?_) _ _ _ _
  · obtain ⟨v1, v2, _⟩ := hR.pcs.el p hp
    exact ⟨v1, v2, hR.pe p hp⟩
  · refine ⟨⟨vl, up l sl, t1, by omega⟩, fun d hd => ⟨⟨vh, up h sh, t1, by omega⟩, fun d' hd' => ?_⟩⟩
    subst hd
    subst hd'
    refine ⟨scB t bs, .inl rfl, ⟨hb', by omega, by omega, (scR_is t1 vl).1, sc l vl sl, (scR_is t1 vh).1, sc h vh sh, fun z => nl ((sc_lt_iff t1 vh vl).mp z)⟩, fun R' hR' _ => ?_⟩
    have e : R' = R.map (scP t) := hR'.uniq cutO (show VC (scR t l, true) from (scR_is t1 vl).1) (show VC (scR t h, false) from (scR_is t1 vh).1) (sc_isClr t1 vl vh hR)
    subst e
    refine ⟨by rw [okD_pieces]; exact okD_pieces _, itF ?_ (hP _ _ _ _ _)⟩
    show (!eqD (.lst (piecesD (R.map (scP t)))) (.lst (piecesD (R.map (scP t))))) = false
    rw [eqD_selfP]
    rfl
end Px

set_option Elab.async false
set_option linter.all false
set_option maxRecDepth 100000
namespace Px
open PySem PySem.Spec PyProof.Rows L2
theorem rtf_vr {u v : Int} (h : RtF u v) : VR (u, v) ∧ szS (u, v) := by
  obtain ⟨⟨u0, _, v0, _⟩, u2, us, v2⟩ := h
  exact ⟨spd_vr us u0, u2, v2⟩
theorem law_A {C : Cl} {w : PWi} {M : Mm} {P : PEnds} {a : Addr} (hd : M a = some .draw) {bs : Bs} {t : Int} (t1 : 1 ≤ t) (t2 : t ≤ 4) (hb : BsOk bs) (h0 : 0 < bs.length) (h4 : bs.length ≤ 4) {s0 s2 x5 x6 x7 x10 x11 x12 x13 x14 s15 s16 s17 s18 s19 s20 s21 : Option Sv} {y8 y9 : Option D}
    (hP : ∀ x5 x6 x7 (y8 y9 : Option D) x10 x11 x12 x13 x14, P.nx [s0, some (.val (.raw (.ref a))), s2, some (.val (.lst (bsD bs))), some (.val (.int t)), x5, x6, x7, y8.map .val, y9.map .val, x10, x11, x12, x13, x14, s15, s16, s17, s18, s19, s20, s21] M) :
    rd_A C w P [s0, some (.val (.raw (.ref a))), s2, some (.val (.lst (bsD bs))), some (.val (.int t)), x5, x6, x7, y8.map .val, y9.map .val, x10, x11, x12, x13, x14, s15, s16, s17, s18, s19, s20, s21] M := by
  have two : (2 : Nat) ≤ 1000000 := by decide
  obtain ⟨p, hp, at1, top⟩ := top_at hb h0
  obtain ⟨p0, p1, p2⟩ := hb.1 p hp
  have st' : Sz t := Sz.of (by omega) (by omega)
  refine ⟨_, at1, _, rfl, (Sz.of (by omega) (by omega) : Sz p.2).mul st', ?_⟩
  by_cases c : p.2 * t ≤ 1000
  · refine itT (decide_eq_true c) ⟨by cases y8 <;> cases y9 <;> rfl, ?_⟩
    have hm : ∀ x ∈ bs, x.2 * t ≤ 1000 := fun x hx => by
      have := Int.mul_le_mul_of_nonneg_right (top x hx) (show 0 ≤ t by omega)
      omega
    refine compR_map (fun d => match d with | .tup [.int x, .int y] => .tup [.int (x * t), .int (y * t)] | d => d) (bsD bs) (fun d hd' kt kf k => ?_) ?_ ?_
    · obtain ⟨x, hx, rfl⟩ := List.mem_map.mp hd'
      obtain ⟨b1, b2, b3⟩ := hb.1 x hx
      exact ⟨rfl, (Sz.of (by omega) (by omega) : Sz x.1).mul st', (Sz.of (by omega) (by omega) : Sz x.2).mul st', two, k⟩
    · unfold bsD
      rw [List.length_map]
      omega
    · have e : (bsD bs).map (fun d => match d with | .tup [.int x, .int y] => .tup [.int (x * t), .int (y * t)] | d => d) = bsD (scB t bs) := by
        unfold bsD scB
        rw [List.map_map, List.map_map]
        rfl
      rw [e]
      refine ⟨hd, bs, rfl, ⟨hb, h0, h4⟩, fun u v r1 => ⟨hd, bs, rfl, ⟨hb, h0, h4⟩, fun u' v' r2 => ?_⟩⟩
      obtain ⟨v1, s1⟩ := rtf_vr r1
      obtain ⟨v2, s2'⟩ := rtf_vr r2
      refine ⟨⟨r2.1.sa, r2.1.sb, r1.1.sa, r1.1.sb⟩, ?_⟩
      by_cases c2 : u' * v < u * v'
      · refine itT (decide_eq_true c2) ⟨two, rfl, ?_⟩
        exact law_A2 (C := C) t1 t2 hb h0 h4 hm v2 v1 s2' s1 (fun z => ltR_irr _ (ltR_tr v1.2.1 v2.2.1 v1.2.1 z c2)) fun x10 x11 x12 x13 x14 => hP _ _ _ (some _) (some _) x10 x11 x12 x13 x14
      · refine itF (decide_eq_false c2) ⟨two, rfl, ?_⟩
        exact law_A2 (C := C) t1 t2 hb h0 h4 hm v1 v2 s1 s2' c2 fun x10 x11 x12 x13 x14 => hP _ _ _ (some _) (some _) x10 x11 x12 x13 x14
  · exact itF (decide_eq_false c) (hP _ _ _ _ _ _ _ _ _ _)
/-! # two by two -/
theorem compR_fltF {α : Type} (f : α → D) (p : α → Bool) {gd : PTG} {tt : PTT} {te : PTE} {ρ : Rho} {M : Mm} {q : List D → Mm → Prop} : ∀ (as : List α) (acc : List D),
    (∀ x ∈ as, ∀ (kt : D → Mm → Prop) (kf : Mm → Prop), (if p x = true then kt (f x) M else kf M) → gd (f x) ρ fun ρ' => tt w0 ρ' M fun b M1 => if b = true then te w0 ρ' M1 kt else kf M1) →
    acc.length + as.length ≤ 1000000 → q (acc ++ (as.filter p).map f) M → compR gd tt te ρ (as.map f) acc M q
  | [], acc, _, _, h => by
    have h : q (acc ++ []) M := h
    rw [List.append_nil] at h
    exact h
  | x :: r, acc, hb, hl, h => by
    have hl : acc.length + (r.length + 1) ≤ 1000000 := hl
    refine hb x List.mem_cons_self _ _ ?_
    rw [List.filter_cons] at h
    by_cases c : p x = true
    · rw [if_pos c] at h ⊢
      refine ⟨by omega, compR_fltF f p r (acc ++ [f x]) (fun y hy => hb y (List.mem_cons_of_mem _ hy)) (by rw [List.length_append, List.length_singleton]; omega) ?_⟩
      rw [List.append_assoc]
      exact h
    · rw [if_neg c] at h ⊢
      exact compR_fltF f p r acc (fun y hy => hb y (List.mem_cons_of_mem _ hy)) (by omega) h
def bsL (L : List Bs) : List D := L.map fun b => .lst (bsD b)
def rd_p1 : PTS := (dSet 16 (dOp fAdd (dVar 16) (dL (dComp [20] (iA (dSl (dVar 3) dNo (dPt (dVar 17)))) (gNm 20) dYes (dL (dLst (dCons (dVar 20) (dCons (dVar 18) dNil))))))))
theorem cut_to (l : List D) (n : Nat) (h : n ≤ l.length) : cutD l none (some (n : Int)) = l.take n := by
  unfold cutD
  rw [HT.sIx_nat, HT.sIx_none]
  rw [Nat.min_eq_left h]
  simp
theorem pairs_fill {w : PWi} {M : Mm} {P : PEnds} {bs : Bs} {s0 s1 s2 s4 s5 s6 s7 s8 s9 s10 s11 s12 s13 s14 s15 s19 s21 : Option Sv} : ∀ (r pre : Bs) (acc : List Bs), bs = pre ++ r → pre.length + r.length ≤ 4 → acc.length + (prsL pre r).length ≤ 1000000 →
    (∀ x17 x18 (y20 : Option D), P.nx [s0, s1, s2, some (.val (.lst (bsD bs))), s4, s5, s6, s7, s8, s9, s10, s11, s12, s13, s14, s15, some (.val (.lst (bsL (acc ++ prsL pre r)))), x17, x18, s19, y20.map .val, s21] M) →
    ∀ x17 x18 (y20 : Option D), forR (gTp 2 (gsCons (gNm 17) (gsCons (gNm 18) gsNil))) rd_p1 w (enumD pre.length (bsD r)) P [s0, s1, s2, some (.val (.lst (bsD bs))), s4, s5, s6, s7, s8, s9, s10, s11, s12, s13, s14, s15, some (.val (.lst (bsL acc))), x17, x18, s19, y20.map .val, s21] M
  | [], pre, acc, _, _, _, h, x17, x18, y20 => by
    have h := h x17 x18 y20
    rw [show prsL pre [] = [] from rfl, List.append_nil] at h
    exact h
  | q :: r, pre, acc, eb, h4, hl, h, x17, x18, y20 => by
    have two : (2 : Nat) ≤ 1000000 := by decide
    have el : prsL pre (q :: r) = (pre.map fun x => [x, q]) ++ prsL (pre ++ [q]) r := rfl
    rw [el] at hl h
    rw [List.length_append, List.length_map] at hl
    have ecut : cutD (bsD bs) none (some ((pre.length : Nat) : Int)) = bsD pre := by
      rw [cut_to _ _ (by rw [eb]; unfold bsD; rw [List.length_map, List.length_append]; omega), eb]
      unfold bsD
      rw [List.map_append, List.take_left' (by rw [List.length_map])]
    have body : ∀ L : List D, L = bsD pre → ∀ (K : List D → Mm → Prop), K (bsL (pre.map fun x => [x, q])) M → compR (gNm 20) dYes (dL (dLst (dCons (dVar 20) (dCons (dVar 18) dNil)))) [s0, s1, s2, some (.val (.lst (bsD bs))), s4, s5, s6, s7, s8, s9, s10, s11, s12, s13, s14, s15, some (.val (.lst (bsL acc))), some (.val (.int (pre.length : Nat))), some (.val (prD q)), s19, none, s21] L [] M K := by
      rintro L rfl K hK
      refine compR_map (fun d => .lst [d, prD q]) (bsD pre) (fun d hd kt kf k => ?_) ?_ ?_
      · exact ⟨two, k⟩
      · unfold bsD
        rw [List.length_map]
        omega
      · have e : (bsD pre).map (fun d => D.lst [d, prD q]) = bsL (pre.map fun x => [x, q]) := by
          unfold bsD bsL
          rw [List.map_map, List.map_map]
          rfl
        rw [e]
        exact hK
    refine ⟨rfl, by cases y20 <;> rfl, body _ ecut _ ⟨?_, ?_⟩⟩
    · unfold bsL
      rw [List.length_map, List.length_map, List.length_map]
      omega
    · have z := pairs_fill (w := w) (M := M) (P := P) (bs := bs) (s0 := s0) (s1 := s1) (s2 := s2) (s4 := s4) (s5 := s5) (s6 := s6) (s7 := s7) (s8 := s8) (s9 := s9) (s10 := s10) (s11 := s11) (s12 := s12) (s13 := s13) (s14 := s14) (s15 := s15) (s19 := s19) (s21 := s21) r (pre ++ [q]) (acc ++ pre.map fun x => [x, q]) (by rw [eb]; simp)
        (by rw [List.length_append, List.length_singleton]; simp only [List.length_cons] at h4; omega) (by rw [List.length_append, List.length_map]; omega) (fun x17 x18 y20 => by
          have h := h x17 x18 y20
          rw [← List.append_assoc] at h
          exact h) (some (.val (.int (pre.length : Nat)))) (some (.val (prD q))) y20
      rw [List.length_append, List.length_singleton] at z
      have e : bsL (acc ++ pre.map fun x => [x, q]) = bsL acc ++ bsL (pre.map fun x => [x, q]) := by unfold bsL; rw [List.map_append]
      rw [e] at z
      exact z
def rd_B2 (C : Cl) : PTS := (dSeq (dSet 19 (dOp fEq (dL (dComp [21] (iA (dVar 16)) (gNm 21) (dTst (dOp fIsNot (dCall (sp_clash_at C) [] (dCons (dVar 21) (dCons (dVar 15) dNil))) (dC .non))) (dVar 21))) (dL (dLst dNil))))
    (dIfS (dOr (dTst (dOp fNe (dVar 19) (dOp fIs (dCall (sp_clash_at C) [] (dCons (dVar 3) (dCons (dVar 15) dNil))) (dC .non)))) (dAnd (dTst (dVar 19)) (dTst (dOp fIsNot (dCall (sp_clash_at C) [] (dCons (dOrT (dSl (dVar 3) (dPt (dC (.int 1))) dNo) (dVar 3)) (dCons (dVar 15) dNil))) (dC .non))))) (dRet (dC (.bl false))) dNext))
theorem eqD_nilB : ∀ L : List Bs, eqD (.lst (bsL L)) (.lst []) = L.isEmpty
  | [] => rfl
  | _ :: _ => rfl
theorem okD_bsL (L : List Bs) : okD 50 (.lst (bsL L)) = true := by
  refine okD_mono 3 50 _ (by decide) ?_
  show (bsL L).all (okD 2) = true
  rw [List.all_eq_true]
  intro d hd
  obtain ⟨b, _, rfl⟩ := List.mem_map.mp hd
  exact okD_bs b
theorem orT_cut {w : PWi} {ρ : Rho} {M : Mm} {q : D → Mm → Prop} {p x : Int × Int} {r : Bs} (h3 : gt ρ 3 = some (.val (.lst (bsD (p :: x :: r))))) (h : q (.lst (bsD (x :: r))) M) : dOrT (dSl (dVar 3) (dPt (dC (.int 1))) dNo) (dVar 3) w ρ M q := by
  have ecut : cutD (bsD (p :: x :: r)) (some 1) none = bsD (x :: r) := cut_from (bsD (p :: x :: r)) 0
  unfold dOrT dSl dPt dNo dVar
  rw [h3]
  dsimp only [dC, slR, asIn]
  rw [ecut]
  exact h
theorem and_var {i : Nat} {w : PWi} {ρ : Rho} {M : Mm} {q : Bool → Mm → Prop} {tb : PTT} (h : gt ρ i = some (.val (.bl true))) (k : tb w ρ M q) : dAnd (dTst (dVar i)) tb w ρ M q := by
  unfold dAnd dTst dVar
  rw [h]
  exact k
theorem call_or {C : Cl} {w : PWi} {ρ : Rho} {M : Mm} {q : Bool → Mm → Prop} {p x : Int × Int} {r : Bs} {y : D} (h3 : gt ρ 3 = some (.val (.lst (bsD (p :: x :: r))))) (h15 : gt ρ 15 = some (.val y))
    (k : sp_clash_at C [.lst (bsD (x :: r)), y] M (fun d M' => noRaw d = true ∧ q (!isN d) M') fun cls fs M' => w cls fs ρ M') :
    dTst (dOp fIsNot (dCall (sp_clash_at C) [] (dCons (dOrT (dSl (dVar 3) (dPt (dC (.int 1))) dNo) (dVar 3)) (dCons (dVar 15) dNil))) (dC .non)) w ρ M q := by
  show dOrT (dSl (dVar 3) (dPt (dC (.int 1))) dNo) (dVar 3) w ρ M _
  refine orT_cut h3 ?_
  show dVar 15 w ρ M _
  unfold dVar
  rw [h15]
  exact k
theorem law_B2 {C : Cl} {w : PWi} {M : Mm} {P : PEnds} {p : Int × Int} {r : Bs} {u v : Int} (hb : BsOk (p :: r)) (h4 : (p :: r).length ≤ 4) (hr : RtF u v) {s0 s1 s2 s4 s5 s6 s7 s8 s9 s10 s11 s12 s13 s14 s17 s18 s19 s20 : Option Sv} {y21 : Option D}
    (hP : ∀ x19 (y21 : Option D), P.nx [s0, s1, s2, some (.val (.lst (bsD (p :: r)))), s4, s5, s6, s7, s8, s9, s10, s11, s12, s13, s14, some (.val (prD (u, v))), some (.val (.lst (bsL ([p] :: prsL [] (p :: r))))), s17, s18, x19, s20, y21.map .val] M) :
    rd_B2 C w P [s0, s1, s2, some (.val (.lst (bsD (p :: r)))), s4, s5, s6, s7, s8, s9, s10, s11, s12, s13, s14, some (.val (prD (u, v))), some (.val (.lst (bsL ([p] :: prsL [] (p :: r))))), s17, s18, s19, s20, y21.map .val] M := by
  obtain ⟨rok, _, hs, _⟩ := hr
  have hall := all_prs rok.1 rok.2.2.1 hb
  have ok : ∀ pr ∈ [p] :: prsL [] (p :: r), BsOk pr ∧ pr.length ≤ 4 ∧ 0 < pr.length := fun pr hp => by
    rcases List.mem_cons.mp hp with rfl | hp
    · exact ⟨⟨fun x hx => by rw [List.mem_singleton.mp hx]; exact hb.1 p List.mem_cons_self, List.pairwise_singleton _ _⟩, show (1 : Nat) ≤ 4 by decide, show (0 : Nat) < 1 by decide⟩
    · obtain ⟨a, b⟩ := prs_ok (p :: r) [] hb pr hp
      exact ⟨a, by omega, by omega⟩
  have hlen := prs_len (p :: r) [] (by show 0 + _ ≤ _; omega)
  generalize hL : [p] :: prsL [] (p :: r) = L at *
  have hlenL : L.length ≤ 17 := by rw [← hL]; show (prsL [] (p :: r)).length + 1 ≤ 17; omega
  refine ⟨by cases y21 <;> rfl, ?_⟩
  refine compR_fltF (fun b => D.lst (bsD b)) (fun pr => !clearB u v pr) L [] (fun pr hp kt kf k => ?_) (by show 0 + L.length ≤ _; omega) ?_
  · obtain ⟨o1, o2, o3⟩ := ok pr hp
    refine ⟨pr, .inl rfl, ⟨o1, o2, o3, rok, hs⟩, fun d hd => ⟨by rw [hd]; exact clashD_nr _ _ _, ?_⟩⟩
    have e : isN d = clearB u v pr := by rw [hd]; exact clashD_is rok.1 Iff.rfl
    rw [e]
    cases c : clearB u v pr with
    | true => rw [c] at k; exact k
    | false => rw [c] at k; exact k
  · have e1 : okD 50 (.lst (bsL (L.filter fun pr => !clearB u v pr))) = true := okD_bsL _
    refine ⟨Nat.zero_le _, by
      show (okD 50 (.lst (bsL (L.filter fun pr => !clearB u v pr))) && true) = true
      rw [e1]; rfl, ?_⟩
    have e2 : eqD (.lst (bsL (L.filter fun pr => !clearB u v pr))) (.lst []) = clearB u v (p :: r) := by
      rw [eqD_nilB, ← hall]
      rw [Bool.eq_iff_iff, List.isEmpty_iff, List.filter_eq_nil_iff, List.all_eq_true]
      constructor
      · intro h x hx
        have := h x hx
        cases c : clearB u v x
        · rw [c] at this; exact absurd rfl this
        · rfl
      · intro h x hx
        rw [h x hx]
        exact Bool.false_ne_true
    have go : ∀ c : Bool, c = clearB u v (p :: r) → (dIfS (dOr (dTst (dOp fNe (dVar 19) (dOp fIs (dCall (sp_clash_at C) [] (dCons (dVar 3) (dCons (dVar 15) dNil))) (dC .non)))) (dAnd (dTst (dVar 19)) (dTst (dOp fIsNot (dCall (sp_clash_at C) [] (dCons (dOrT (dSl (dVar 3) (dPt (dC (.int 1))) dNo) (dVar 3)) (dCons (dVar 15) dNil))) (dC .non))))) (dRet (dC (.bl false))) dNext) w P
        [s0, s1, s2, some (.val (.lst (bsD (p :: r)))), s4, s5, s6, s7, s8, s9, s10, s11, s12, s13, s14, some (.val (prD (u, v))), some (.val (.lst (bsL L))), s17, s18, some (.val (.bl c)), s20, y21.map .val] M := by
      intro c hc
      refine ⟨p :: r, .inl rfl, ⟨hb, h4, Nat.succ_pos _, rok, hs⟩, fun d hd => ⟨by rw [hd]; exact clashD_nr _ _ _, rfl, ?_⟩⟩
      have e : isN d = c := by rw [hd, hc]; exact clashD_is rok.1 Iff.rfl
      have e3 : (!eqD (.bl c) (.bl (isN d))) = false := by rw [eqD_bl, e]; simp
      refine itF e3 ?_
      cases c with
      | false => exact hP _ y21
      | true =>
        have ecut : cutD (bsD (p :: r)) (some 1) none = bsD r := cut_from (bsD (p :: r)) 0
        cases r with
        | nil =>
          refine ⟨[p], .inl rfl, ⟨hb, h4, Nat.succ_pos _, rok, hs⟩, fun d' hd' => ⟨by rw [hd']; exact clashD_nr _ _ _, ?_⟩⟩
          have e4 : (!isN d') = false := by rw [hd', clashD_is rok.1 (cl := clearB u v [p]) Iff.rfl, ← hc]; rfl
          exact itF e4 (hP _ y21)
        | cons x r =>
          have hb2 := hb.cons.2.1
          have c2 : clearB u v (x :: r) = true := by
            have := hc.symm
            unfold clearB at this
            rw [Bool.and_eq_true, Bool.and_eq_true] at this
            exact this.2.2
          refine and_var rfl (call_or (p := p) (x := x) (r := r) (y := prD (u, v)) rfl rfl ?_)
          refine ⟨x :: r, .inl rfl, ⟨hb2, by simp only [List.length_cons] at h4 ⊢; omega, Nat.succ_pos _, rok, hs⟩, fun d' hd' => ⟨by rw [hd']; exact clashD_nr _ _ _, ?_⟩⟩
          have e4 : (!isN d') = false := by rw [hd', clashD_is rok.1 (cl := clearB u v (x :: r)) Iff.rfl, c2]; rfl
          exact itF e4 (hP _ y21)
    have z := go _ e2
    exact z
end Px

set_option Elab.async false
set_option linter.all false
set_option maxRecDepth 100000
namespace Px
open PySem PySem.Spec PyProof.Rows L2
/-! # the law k80 -/
def rd_law (C : Cl) : PTS := (dSeq (dSet 1 (dCall sp_begin [] (dCons (dVar 0) dNil)))
    (dSeq (dFor (iR1 (dOp fAdd (dC (.int 3)) (dOp fMin2 (dB1 fLen (dVar 0)) (dC (.int 8))))) (gNm 2) (dSeq (dIfS (dNot (dTst (dCall (sp__law_single_right C) [] (dCons (dVar 1) dNil)))) (dRet (dC (.bl false))) dNext)
    (dSeq (dAsg (dTup (dCons (dCall (sp__law_bands C) [] (dCons (dVar 1) dNil)) (dCons (dOp fAdd (dC (.int 2)) (dCall sp_take [] (dCons (dVar 1) (dCons (dC (.int 3)) dNil)))) dNil))) (gTp 2 (gsCons (gNm 3) (gsCons (gNm 4) gsNil))))
    (dSeq (dIfS (dTst (dOp fLe (dOp fMul (dOp fIx (dOp fIx (dVar 3) (dNeg (dC (.int 1)))) (dC (.int 1))) (dVar 4)) (dC (.int 1000)))) (dSeq (dSet 5 (dL (dComp [8, 9] (iA (dVar 3)) (gTp 2 (gsCons (gNm 8) (gsCons (gNm 9) gsNil))) dYes (dTup (dCons (dOp fMul (dVar 8) (dVar 4)) (dCons (dOp fMul (dVar 9) (dVar 4)) dNil))))))
    (dSeq (dPar 6 7 (dCons (dCall (sp__law_near_rate C) [] (dCons (dVar 1) (dCons (dVar 3) dNil))) (dCons (dCall (sp__law_near_rate C) [] (dCons (dVar 1) (dCons (dVar 3) dNil))) dNil)))
    (dSeq (dAsg (dIf (dTst (dCall (sp__law_less C) [] (dCons (dVar 7) (dCons (dVar 6) dNil)))) (dTup (dCons (dVar 7) (dCons (dVar 6) dNil))) (dTup (dCons (dVar 6) (dCons (dVar 7) dNil)))) (gTp 2 (gsCons (gNm 8) (gsCons (gNm 9) gsNil))))
    (dSeq (dSetO 10 (dLst dNil))
    (dSeq (dFor (iA (dCall (sp_clear_halves C) [] (dCons (dVar 3) (dCons (dVar 8) (dCons (dVar 9) dNil))))) (gTp 4 (gsCons (gNm 11) (gsCons (gNm 12) (gsCons (gNm 13) (gsCons (gNm 14) gsNil))))) (dApp 10 (dTup (dCons (dCall (sp__law_times C) [] (dCons (dVar 11) (dCons (dVar 4) dNil))) (dCons (dVar 12) (dCons (dCall (sp__law_times C) [] (dCons (dVar 13) (dCons (dVar 4) dNil))) (dCons (dVar 14) dNil)))))))
    (dIfS (dTst (dOp fNe (dCall (sp_clear_halves C) [] (dCons (dVar 5) (dCons (dCall (sp__law_times C) [] (dCons (dVar 8) (dCons (dVar 4) dNil))) (dCons (dCall (sp__law_times C) [] (dCons (dVar 9) (dCons (dVar 4) dNil))) dNil)))) (dOwn 10))) (dRet (dC (.bl false))) dNext)))))) dNext)
    (dSeq (dSet 15 (dCall (sp__law_near_rate C) [] (dCons (dVar 1) (dCons (dVar 3) dNil))))
    (dSeq (dSet 16 (dL (dLst (dCons (dL (dLst (dCons (dOp fIx (dVar 3) (dC (.int 0))) dNil))) dNil))))
    (dSeq (dFor (iEA (dVar 3)) (gTp 2 (gsCons (gNm 17) (gsCons (gNm 18) gsNil))) (dSet 16 (dOp fAdd (dVar 16) (dL (dComp [20] (iA (dSl (dVar 3) dNo (dPt (dVar 17)))) (gNm 20) dYes (dL (dLst (dCons (dVar 20) (dCons (dVar 18) dNil)))))))))
    (dSeq (dSet 19 (dOp fEq (dL (dComp [21] (iA (dVar 16)) (gNm 21) (dTst (dOp fIsNot (dCall (sp_clash_at C) [] (dCons (dVar 21) (dCons (dVar 15) dNil))) (dC .non))) (dVar 21))) (dL (dLst dNil))))
    (dIfS (dOr (dTst (dOp fNe (dVar 19) (dOp fIs (dCall (sp_clash_at C) [] (dCons (dVar 3) (dCons (dVar 15) dNil))) (dC .non)))) (dAnd (dTst (dVar 19)) (dTst (dOp fIsNot (dCall (sp_clash_at C) [] (dCons (dOrT (dSl (dVar 3) (dPt (dC (.int 1))) dNo) (dVar 3)) (dCons (dVar 15) dNil))) (dC .non))))) (dRet (dC (.bl false))) dNext)))))))))
    (dRet (dC (.bl true)))))
theorem law_body {C : Cl} {w : PWi} {M : Mm} {P : PEnds} {a : Addr} (hm : M a = some .draw) {s0 x2 x3 x4 x5 x6 x7 x10 x11 x12 x13 x14 x15 x16 x17 x18 x19 : Option Sv} {y8 y9 y20 y21 : Option D}
    (hP : ∀ x3 x4 x5 x6 x7 (y8 y9 : Option D) x10 x11 x12 x13 x14 x15 x16 x17 x18 x19 (y20 y21 : Option D), P.nx [s0, some (.val (.raw (.ref a))), x2, x3, x4, x5, x6, x7, y8.map .val, y9.map .val, x10, x11, x12, x13, x14, x15, x16, x17, x18, x19, y20.map .val, y21.map .val] M) :
    (dSeq (dIfS (dNot (dTst (dCall (sp__law_single_right C) [] (dCons (dVar 1) dNil)))) (dRet (dC (.bl false))) dNext)
    (dSeq (dAsg (dTup (dCons (dCall (sp__law_bands C) [] (dCons (dVar 1) dNil)) (dCons (dOp fAdd (dC (.int 2)) (dCall sp_take [] (dCons (dVar 1) (dCons (dC (.int 3)) dNil)))) dNil))) (gTp 2 (gsCons (gNm 3) (gsCons (gNm 4) gsNil))))
    (dSeq (rd_A C)
    (dSeq (dSet 15 (dCall (sp__law_near_rate C) [] (dCons (dVar 1) (dCons (dVar 3) dNil))))
    (dSeq (dSet 16 (dL (dLst (dCons (dL (dLst (dCons (dOp fIx (dVar 3) (dC (.int 0))) dNil))) dNil))))
    (dSeq (dFor (iEA (dVar 3)) (gTp 2 (gsCons (gNm 17) (gsCons (gNm 18) gsNil))) rd_p1)
    (rd_B2 C))))))) w P [s0, some (.val (.raw (.ref a))), x2, x3, x4, x5, x6, x7, y8.map .val, y9.map .val, x10, x11, x12, x13, x14, x15, x16, x17, x18, x19, y20.map .val, y21.map .val] M := by
  have two : (2 : Nat) ≤ 1000000 := by decide
  have one : (1 : Nat) ≤ 1000000 := by decide
  refine ⟨hm, hm, fun bs hb h0 h4 => ⟨hm, ⟨by decide, lg (by decide) (by decide)⟩, fun k k0 k1 => ⟨two, rfl, ?_⟩⟩⟩
  refine law_A (C := C) (t := 2 + k) hm (by omega) (by omega) hb h0 h4 fun x5 x6 x7 y8 y9 x10 x11 x12 x13 x14 => ?_
  refine ⟨hm, bs, rfl, ⟨hb, h0, h4⟩, fun u v hr => ?_⟩
  cases bs with
  | nil => cases h0
  | cons p r =>
    refine ⟨prD p, atI_nat (j := 0) rfl, one, one, ?_⟩
    have hlen := prs_len (p :: r) [] (by show 0 + _ ≤ _; omega)
    refine pairs_fill (bs := p :: r) (p :: r) [] [[p]] rfl (by show 0 + _ ≤ _; omega) (by show 1 + _ ≤ _; omega) (fun x17 x18 y20 => ?_) _ _ y20
    exact law_B2 (C := C) hb h4 hr fun x19 y21 => hP _ _ _ _ _ y8 y9 _ _ _ _ _ _ _ _ _ _ y20 y21
theorem sh_law (C : Cl) : Shows sp_law 22 (rd_law C) := by
  intro ds M q e h
  obtain ⟨d, rfl, h⟩ := ar1_of h
  obtain ⟨ns, rfl, hn, hq⟩ : ∃ ns, d = .scr ns ∧ ns.length ≤ 63 ∧ q (.bl true) M := by
    cases d with
    | scr ns => exact ⟨ns, rfl, h⟩
    | _ => exact (show False from h).elim
  refine ⟨hn, fun a ha => ?_⟩
  have hm : updM M a .draw a = some .draw := updM_same
  refine ⟨by omega, by omega, ?_⟩
  refine forR_inv (fun ρ M' => M' = updM M a .draw ∧ ∃ x2 x3 x4 x5 x6 x7 : Option Sv, ∃ y8 y9 : Option D, ∃ x10 x11 x12 x13 x14 x15 x16 x17 x18 x19 : Option Sv, ∃ y20 y21 : Option D, ρ = [some (.val (.scr ns)), some (.val (.raw (.ref a))), x2, x3, x4, x5, x6, x7, y8.map .val, y9.map .val, x10, x11, x12, x13, x14, x15, x16, x17, x18, x19, y20.map .val, y21.map .val]) _ ?_ ?_ _ _
    ⟨rfl, none, none, none, none, none, none, none, none, none, none, none, none, none, none, none, none, none, none, none, none, rfl⟩
  · rintro d hd F hF ρ M' ⟨rfl, x2, x3, x4, x5, x6, x7, y8, y9, x10, x11, x12, x13, x14, x15, x16, x17, x18, x19, y20, y21, rfl⟩
    exact law_body (C := C) hm fun x3 x4 x5 x6 x7 y8 y9 x10 x11 x12 x13 x14 x15 x16 x17 x18 x19 y20 y21 => hF _ _ ⟨rfl, _, x3, x4, x5, x6, x7, y8, y9, x10, x11, x12, x13, x14, x15, x16, x17, x18, x19, y20, y21, rfl⟩
  · rintro ρ M' ⟨rfl, x2, x3, x4, x5, x6, x7, y8, y9, x10, x11, x12, x13, x14, x15, x16, x17, x18, x19, y20, y21, rfl⟩
    exact ⟨M, updM_le ha, hq⟩
end Px

set_option Elab.async false
set_option linter.all false
set_option maxRecDepth 100000
namespace Px
open PySem PySem.Spec PyProof.Rows L2
def top (i : Nat) : Stmt := PySem.Challenge.pw_flashfolds_k80_whole_bands_alone_and_sca.main.body.getD i (.Pass ⟨0, 0, 0, 0⟩)
abbrev s_is_integer : Stmt := top 6
theorem sc_is_integer : FnScope ["thing"] ["thing"] (defScope s_is_integer) := ⟨rfl, rfl, rfl, by decide +kernel, rfl, by decide +kernel, by decide +kernel⟩
abbrev s_divisor : Stmt := top 8
theorem sc_divisor : FnScope ["one", "other"] ["one", "other"] (defScope s_divisor) := ⟨rfl, rfl, rfl, by decide +kernel, rfl, by decide +kernel, by decide +kernel⟩
abbrev s_is_below : Stmt := top 11
theorem sc_is_below : FnScope ["one", "other"] ["one", "other"] (defScope s_is_below) := ⟨rfl, rfl, rfl, by decide +kernel, rfl, by decide +kernel, by decide +kernel⟩
abbrev s_fold_in : Stmt := top 19
theorem sc_fold_in : FnScope ["band", "rate", "low", "high", "times"] ["band", "rate"] (defScope s_fold_in) := ⟨rfl, rfl, rfl, by decide +kernel, rfl, by decide +kernel, by decide +kernel⟩
abbrev s_constants_of : Stmt := top 26
theorem sc_constants_of : FnScope ["bands", "found", "at", "band", "later", "number"] ["bands"] (defScope s_constants_of) := ⟨rfl, rfl, rfl, by decide +kernel, rfl, by decide +kernel, by decide +kernel⟩
abbrev s_widest : Stmt := top 29
theorem sc_widest : FnScope ["bands", "low", "high"] ["bands"] (defScope s_widest) := ⟨rfl, rfl, rfl, by decide +kernel, rfl, by decide +kernel, by decide +kernel⟩
abbrev s__law_begin : Stmt := top 34
theorem sc__law_begin : FnScope ["_law_script", "_law_large", "_law_cell"] ["_law_script"] (defScope s__law_begin) := ⟨rfl, rfl, rfl, by decide +kernel, rfl, by decide +kernel, by decide +kernel⟩
abbrev s__law_take : Stmt := top 35
theorem sc__law_take : FnScope ["_law_draw", "_law_size", "_law_cell", "_law_found"] ["_law_draw", "_law_size"] (defScope s__law_take) := ⟨rfl, rfl, rfl, by decide +kernel, rfl, by decide +kernel, by decide +kernel⟩
abbrev s__law_fraction : Stmt := top 37
theorem sc__law_fraction : FnScope ["_law_top", "_law_bottom", "_law_one", "_law_other"] ["_law_top", "_law_bottom"] (defScope s__law_fraction) := ⟨rfl, rfl, rfl, by decide +kernel, rfl, by decide +kernel, by decide +kernel⟩
abbrev s__law_less : Stmt := top 38
theorem sc__law_less : FnScope ["_law_one", "_law_other"] ["_law_one", "_law_other"] (defScope s__law_less) := ⟨rfl, rfl, rfl, by decide +kernel, rfl, by decide +kernel, by decide +kernel⟩
abbrev s_is_between : Stmt := top 7
theorem sc_is_between : FnScope ["thing", "low", "high"] ["thing", "low", "high"] (defScope s_is_between) := ⟨rfl, rfl, rfl, by decide +kernel, rfl, by decide +kernel, by decide +kernel⟩
abbrev s_is_speed : Stmt := top 9
theorem sc_is_speed : FnScope ["thing", "part"] ["thing"] (defScope s_is_speed) := ⟨rfl, rfl, rfl, by decide +kernel, rfl, by decide +kernel, by decide +kernel⟩
abbrev s_lowest : Stmt := top 10
theorem sc_lowest : FnScope ["top", "bottom", "shared"] ["top", "bottom"] (defScope s_lowest) := ⟨rfl, rfl, rfl, by decide +kernel, rfl, by decide +kernel, by decide +kernel⟩
abbrev s_greater : Stmt := top 22
theorem sc_greater : FnScope ["one", "other"] ["one", "other"] (defScope s_greater) := ⟨rfl, rfl, rfl, by decide +kernel, rfl, by decide +kernel, by decide +kernel⟩
abbrev s__law_pick : Stmt := top 36
theorem sc__law_pick : FnScope ["_law_draw", "_law_some"] ["_law_draw", "_law_some"] (defScope s__law_pick) := ⟨rfl, rfl, rfl, by decide +kernel, rfl, by decide +kernel, by decide +kernel⟩
abbrev s__law_alone : Stmt := top 42
theorem sc__law_alone : FnScope ["_law_low", "_law_high", "_law_first", "_law_last", "_law_found", "_law_n", "_law_floor", "_law_roof"] ["_law_low", "_law_high", "_law_first", "_law_last"] (defScope s__law_alone) := ⟨rfl, rfl, rfl, by decide +kernel, rfl, by decide +kernel, by decide +kernel⟩
abbrev s__law_times : Stmt := top 43
theorem sc__law_times : FnScope ["_law_one", "_law_times_here"] ["_law_one", "_law_times_here"] (defScope s__law_times) := ⟨rfl, rfl, rfl, by decide +kernel, rfl, by decide +kernel, by decide +kernel⟩
abbrev s_is_band : Stmt := top 15
theorem sc_is_band : FnScope ["thing"] ["thing"] (defScope s_is_band) := ⟨rfl, rfl, rfl, by decide +kernel, rfl, by decide +kernel, by decide +kernel⟩
abbrev s_is_rate : Stmt := top 17
theorem sc_is_rate : FnScope ["thing"] ["thing"] (defScope s_is_rate) := ⟨rfl, rfl, rfl, by decide +kernel, rfl, by decide +kernel, by decide +kernel⟩
abbrev s_gap_in : Stmt := top 20
theorem sc_gap_in : FnScope ["low", "high", "rate", "times"] ["low", "high", "rate"] (defScope s_gap_in) := ⟨rfl, rfl, rfl, by decide +kernel, rfl, by decide +kernel, by decide +kernel⟩
abbrev s_moved : Stmt := top 21
theorem sc_moved : FnScope ["number", "gap", "turn"] ["number", "gap", "turn"] (defScope s_moved) := ⟨rfl, rfl, rfl, by decide +kernel, rfl, by decide +kernel, by decide +kernel⟩
abbrev s_next_change : Stmt := top 27
theorem sc_next_change : FnScope ["constants", "rate", "found", "number", "times"] ["constants", "rate"] (defScope s_next_change) := ⟨rfl, rfl, rfl, by decide +kernel, rfl, by decide +kernel, by decide +kernel⟩
abbrev s_between : Stmt := top 28
theorem sc_between : FnScope ["one", "other"] ["one", "other"] (defScope s_between) := ⟨rfl, rfl, rfl, by decide +kernel, rfl, by decide +kernel, by decide +kernel⟩
abbrev s__law_bands : Stmt := top 39
theorem sc__law_bands : FnScope ["_law_draw", "_law_top", "_law_found", "_law_last", "_law_turn", "_law_low", "_law_high"] ["_law_draw"] (defScope s__law_bands) := ⟨rfl, rfl, rfl, by decide +kernel, rfl, by decide +kernel, by decide +kernel⟩
abbrev s__law_rate : Stmt := top 40
theorem sc__law_rate : FnScope ["_law_draw", "_law_bottom"] ["_law_draw"] (defScope s__law_rate) := ⟨rfl, rfl, rfl, by decide +kernel, rfl, by decide +kernel, by decide +kernel⟩
abbrev s_need_bands : Stmt := top 16
theorem sc_need_bands : FnScope ["bands", "at", "band"] ["bands"] (defScope s_need_bands) := ⟨rfl, rfl, rfl, by decide +kernel, rfl, by decide +kernel, by decide +kernel⟩
abbrev s_need_rate : Stmt := top 18
theorem sc_need_rate : FnScope ["thing"] ["thing"] (defScope s_need_rate) := ⟨rfl, rfl, rfl, by decide +kernel, rfl, by decide +kernel, by decide +kernel⟩
abbrev s_alike_in : Stmt := top 23
theorem sc_alike_in : FnScope ["one", "other", "rate", "gap", "first"] ["one", "other", "rate"] (defScope s_alike_in) := ⟨rfl, rfl, rfl, by decide +kernel, rfl, by decide +kernel, by decide +kernel⟩
abbrev s__law_near_rate : Stmt := top 41
theorem sc__law_near_rate : FnScope ["_law_draw", "_law_bands_here", "_law_low", "_law_high", "_law_some", "_law_number", "_law_one", "_law_way"] ["_law_draw", "_law_bands_here"] (defScope s__law_near_rate) := ⟨rfl, rfl, rfl, by decide +kernel, rfl, by decide +kernel, by decide +kernel⟩
abbrev s_clash_of : Stmt := top 24
theorem sc_clash_of : FnScope ["bands", "rate", "at", "band", "times", "later", "pair"] ["bands", "rate"] (defScope s_clash_of) := ⟨rfl, rfl, rfl, by decide +kernel, rfl, by decide +kernel, by decide +kernel⟩
abbrev s_clash_at : Stmt := top 25
theorem sc_clash_at : FnScope ["bands", "half"] ["bands", "half"] (defScope s_clash_at) := ⟨rfl, rfl, rfl, by decide +kernel, rfl, by decide +kernel, by decide +kernel⟩
abbrev s_clear_from : Stmt := top 30
theorem sc_clear_from : FnScope ["bands", "low", "high", "constants", "found", "begun", "here", "later", "rate", "has_low", "is_clear"] ["bands", "low", "high"] (defScope s_clear_from) := ⟨rfl, rfl, rfl, by decide +kernel, rfl, by decide +kernel, by decide +kernel⟩
abbrev s_least_clear : Stmt := top 32
theorem sc_least_clear : FnScope ["bands", "wish", "constants", "here", "later"] ["bands", "wish"] (defScope s_least_clear) := ⟨rfl, rfl, rfl, by decide +kernel, rfl, by decide +kernel, by decide +kernel⟩
abbrev s_clear_halves : Stmt := top 31
theorem sc_clear_halves : FnScope ["bands", "low", "high"] ["bands", "low", "high"] (defScope s_clear_halves) := ⟨rfl, rfl, rfl, by decide +kernel, rfl, by decide +kernel, by decide +kernel⟩
abbrev s__law_single_right : Stmt := top 44
theorem sc__law_single_right : FnScope ["_law_draw", "_law_low", "_law_high", "_law_first", "_law_last", "_law_due"] ["_law_draw"] (defScope s__law_single_right) := ⟨rfl, rfl, rfl, by decide +kernel, rfl, by decide +kernel, by decide +kernel⟩
abbrev s_law : Stmt := top 45
theorem sc_law : FnScope ["_law_script", "_law_draw", "_law_turn", "_law_bands_here", "_law_times_here", "_law_far", "_law_one", "_law_other", "_law_low", "_law_high", "_law_due", "_law_begin_here", "_law_has_begin", "_law_end", "_law_has_end", "_law_rate_here", "_law_pairs", "_law_at", "_law_band", "_law_apart", "_law_before", "_law_pair"] ["_law_script"] (defScope s_law) := ⟨rfl, rfl, rfl, by decide +kernel, rfl, by decide +kernel, by decide +kernel⟩
structure Ad where
  (is_integer divisor is_below fold_in constants_of widest _law_begin _law_take _law_fraction _law_less is_between is_speed lowest greater _law_pick _law_alone _law_times is_band is_rate gap_in moved next_change between _law_bands _law_rate need_bands need_rate alike_in _law_near_rate clash_of clash_at clear_from least_clear clear_halves _law_single_right law : Addr × FuncData)
structure Txt (K : PySem.W.Frag) (mg : Str → Option Value) (C : Cl) (A : Ad) : Prop where
  z_abs : mg "abs" = none
  z_all : mg "all" = none
  z_bool : mg "bool" = none
  z_divmod : mg "divmod" = none
  z_enumerate : mg "enumerate" = none
  z_int : mg "int" = none
  z_isinstance : mg "isinstance" = none
  z_len : mg "len" = none
  z_list : mg "list" = none
  z_max : mg "max" = none
  z_min : mg "min" = none
  z_range : mg "range" = none
  z_repr : mg "repr" = none
  z_sorted : mg "sorted" = none
  z_tuple : mg "tuple" = none
  c_GREATEST_END : ∃ t, mg "GREATEST_END" = some (.int 1000 t)
  c_MOST_BANDS : ∃ t, mg "MOST_BANDS" = some (.int 4 t)
  x_BadSpeed : ExcTxt K mg "BadSpeed" C.BadSpeed
  x_BadStretch : ExcTxt K mg "BadStretch" C.BadStretch
  is_integer : DefT K mg "is_integer" s_is_integer ["thing"] A.is_integer.1 A.is_integer.2
  divisor : DefT K mg "divisor" s_divisor ["one", "other"] A.divisor.1 A.divisor.2
  is_below : DefT K mg "is_below" s_is_below ["one", "other"] A.is_below.1 A.is_below.2
  fold_in : DefT K mg "fold_in" s_fold_in ["band", "rate"] A.fold_in.1 A.fold_in.2
  constants_of : DefT K mg "constants_of" s_constants_of ["bands"] A.constants_of.1 A.constants_of.2
  widest : DefT K mg "widest" s_widest ["bands"] A.widest.1 A.widest.2
  _law_begin : DefT K mg "_law_begin" s__law_begin ["_law_script"] A._law_begin.1 A._law_begin.2
  _law_take : DefT K mg "_law_take" s__law_take ["_law_draw", "_law_size"] A._law_take.1 A._law_take.2
  _law_fraction : DefT K mg "_law_fraction" s__law_fraction ["_law_top", "_law_bottom"] A._law_fraction.1 A._law_fraction.2
  _law_less : DefT K mg "_law_less" s__law_less ["_law_one", "_law_other"] A._law_less.1 A._law_less.2
  is_between : DefT K mg "is_between" s_is_between ["thing", "low", "high"] A.is_between.1 A.is_between.2
  is_speed : DefT K mg "is_speed" s_is_speed ["thing"] A.is_speed.1 A.is_speed.2
  lowest : DefT K mg "lowest" s_lowest ["top", "bottom"] A.lowest.1 A.lowest.2
  greater : DefT K mg "greater" s_greater ["one", "other"] A.greater.1 A.greater.2
  _law_pick : DefT K mg "_law_pick" s__law_pick ["_law_draw", "_law_some"] A._law_pick.1 A._law_pick.2
  _law_alone : DefT K mg "_law_alone" s__law_alone ["_law_low", "_law_high", "_law_first", "_law_last"] A._law_alone.1 A._law_alone.2
  _law_times : DefT K mg "_law_times" s__law_times ["_law_one", "_law_times_here"] A._law_times.1 A._law_times.2
  is_band : DefT K mg "is_band" s_is_band ["thing"] A.is_band.1 A.is_band.2
  is_rate : DefT K mg "is_rate" s_is_rate ["thing"] A.is_rate.1 A.is_rate.2
  gap_in : DefT K mg "gap_in" s_gap_in ["low", "high", "rate"] A.gap_in.1 A.gap_in.2
  moved : DefT K mg "moved" s_moved ["number", "gap", "turn"] A.moved.1 A.moved.2
  next_change : DefT K mg "next_change" s_next_change ["constants", "rate"] A.next_change.1 A.next_change.2
  between : DefT K mg "between" s_between ["one", "other"] A.between.1 A.between.2
  _law_bands : DefT K mg "_law_bands" s__law_bands ["_law_draw"] A._law_bands.1 A._law_bands.2
  _law_rate : DefT K mg "_law_rate" s__law_rate ["_law_draw"] A._law_rate.1 A._law_rate.2
  need_bands : DefT K mg "need_bands" s_need_bands ["bands"] A.need_bands.1 A.need_bands.2
  need_rate : DefT K mg "need_rate" s_need_rate ["thing"] A.need_rate.1 A.need_rate.2
  alike_in : DefT K mg "alike_in" s_alike_in ["one", "other", "rate"] A.alike_in.1 A.alike_in.2
  _law_near_rate : DefT K mg "_law_near_rate" s__law_near_rate ["_law_draw", "_law_bands_here"] A._law_near_rate.1 A._law_near_rate.2
  clash_of : DefT K mg "clash_of" s_clash_of ["bands", "rate"] A.clash_of.1 A.clash_of.2
  clash_at : DefT K mg "clash_at" s_clash_at ["bands", "half"] A.clash_at.1 A.clash_at.2
  clear_from : DefT K mg "clear_from" s_clear_from ["bands", "low", "high"] A.clear_from.1 A.clear_from.2
  least_clear : DefT K mg "least_clear" s_least_clear ["bands", "wish"] A.least_clear.1 A.least_clear.2
  clear_halves : DefT K mg "clear_halves" s_clear_halves ["bands", "low", "high"] A.clear_halves.1 A.clear_halves.2
  _law_single_right : DefT K mg "_law_single_right" s__law_single_right ["_law_draw"] A._law_single_right.1 A._law_single_right.2
  law : DefT K mg "law" s_law ["_law_script"] A.law.1 A.law.2
section
variable {P : Program} {w : World} {K : PySem.W.Frag} {mg : Str → Option Value} {base : Heap} {C : Cl} {A : Ad}
theorem ok_is_integer (T : Txt K mg C A) : FnG P w K mg base 1 A.is_integer.1 A.is_integer.2 ["thing"] (toSp K 1 (sp_is_integer C)) :=
  Fun.pok T.is_integer.f sc_is_integer rfl (sh_is_integer C) fun cdv A' outer s H E hr hG =>
    (dss_one (ds_ret (de_and (de_isi "int" (by decide) rfl T.z_isinstance rfl T.z_int (by decide +kernel) (do_of (dv 0))) (de_bone (de_not (de_isi "bool" (by decide) rfl T.z_isinstance rfl T.z_bool (by decide +kernel) (do_of (dv 0))))))))

theorem ok_divisor (T : Txt K mg C A) : FnG P w K mg base 1 A.divisor.1 A.divisor.2 ["one", "other"] (toSp K 2 (sp_divisor C)) :=
  Fun.pok T.divisor.f sc_divisor rfl (sh_divisor C) fun cdv A' outer s H E hr hG =>
    (dss_cons (ds_while (passes_of rfl) (dt_gt (do_of (dv 1)) (do_of de_int)) (dss_one (ds_par 0 1 rfl sc_divisor.nd (da_cons (dv 1) (da_cons (de_mod (do_of (dv 0)) (do_of (dv 1))) da_nil)))))
      (dss_one (ds_ret (dv 0))))

theorem ok_is_below (T : Txt K mg C A) : FnG P w K mg base 1 A.is_below.1 A.is_below.2 ["one", "other"] (toSp K 2 (sp_is_below C)) :=
  Fun.pok T.is_below.f sc_is_below rfl (sh_is_below C) fun cdv A' outer s H E hr hG =>
    (dss_one (ds_ret (de_lt (do_of (de_mul (do_of (de_ix (do_of (dv 0)) (do_of de_int))) (do_of (de_ix (do_of (dv 1)) (do_of de_int))))) (do_of (de_mul (do_of (de_ix (do_of (dv 1)) (do_of de_int))) (do_of (de_ix (do_of (dv 0)) (do_of de_int))))))))

theorem ok_fold_in (T : Txt K mg C A) : FnG P w K mg base 1 A.fold_in.1 A.fold_in.2 ["band", "rate"] (toSp K 2 (sp_fold_in C)) :=
  Fun.pok T.fold_in.f sc_fold_in rfl (sh_fold_in C) fun cdv A' outer s H E hr hG =>
    (dss_cons (ds_asg (dv 0) (dg_tup rfl (dgs_cons (dg_nm 2 sc_fold_in.nd) (dgs_cons (dg_nm 3 sc_fold_in.nd) dgs_nil))))
      (dss_cons (ds_set 4 sc_fold_in.nd (de_add (do_of (de_div (do_of (de_mul (do_of (dv 2)) (do_of (de_ix (do_of (dv 1)) (do_of de_int))))) (do_of (de_ix (do_of (dv 1)) (do_of de_int))))) (do_of de_int)))
      (dss_one (ds_ret (de_ife (dt_lt (do_of (de_mul (do_of (dv 4)) (do_of (de_ix (do_of (dv 1)) (do_of de_int))))) (do_of (de_mul (do_of (dv 3)) (do_of (de_ix (do_of (dv 1)) (do_of de_int)))))) (dv 4) de_non)))))

theorem ok_constants_of (T : Txt K mg C A) : FnG P w K mg base 1 A.constants_of.1 A.constants_of.2 ["bands"] (toSp K 1 (sp_constants_of C)) :=
  Fun.pok T.constants_of.f sc_constants_of rfl (sh_constants_of C) fun cdv A' outer s H E hr hG =>
    (dss_cons (ds_set 1 sc_constants_of.nd (de_l (dl_lst da_nil)))
      (dss_cons (ds_for (passes_of rfl) rfl (di_enumA rfl T.z_enumerate (dv 0)) (dg_tup rfl (dgs_cons (dg_nm 2 sc_constants_of.nd) (dgs_cons (dg_nm 3 sc_constants_of.nd) dgs_nil))) (dss_cons (ds_set 1 sc_constants_of.nd (de_add (do_of (dv 1)) (do_of (de_l (dl_lst (da_cons (de_mul (do_of de_int) (do_of (de_ix (do_of (dv 3)) (do_of de_int)))) (da_cons (de_mul (do_of de_int) (do_of (de_ix (do_of (dv 3)) (do_of de_int)))) da_nil)))))))
      (dss_one (ds_for (passes_of rfl) rfl (di_any (de_sl (do_of (dv 0)) (dp_pt (de_add (do_of (dv 2)) (do_of de_int))) dp_no)) (dg_nm 4 sc_constants_of.nd) (dss_one (ds_set 1 sc_constants_of.nd (de_add (do_of (dv 1)) (do_of (de_l (dl_lst (da_cons (de_add (do_of (de_ix (do_of (dv 3)) (do_of de_int))) (do_of (de_ix (do_of (dv 4)) (do_of de_int)))) (da_cons (de_add (do_of (de_ix (do_of (dv 3)) (do_of de_int))) (do_of (de_ix (do_of (dv 4)) (do_of de_int)))) (da_cons (de_sub (do_of (de_ix (do_of (dv 4)) (do_of de_int))) (do_of (de_ix (do_of (dv 3)) (do_of de_int)))) (da_cons (de_sub (do_of (de_ix (do_of (dv 4)) (do_of de_int))) (do_of (de_ix (do_of (dv 3)) (do_of de_int)))) da_nil))))))))))))))
      (dss_one (ds_ret (de_l (dl_sortSet rfl sc_constants_of.nd (own := [("number", 5)]) (di_any (dv 1)) (blkOk_by rfl) (fun _ _ _ _ _ => (dg_nm 5 sc_constants_of.nd)) (fun _ _ _ _ _ => (dts_one (dt_gt (do_of (dv 5)) (do_of de_int)))) (fun _ _ _ _ _ => (dv 5)) rfl T.z_sorted))))))

theorem ok_widest (T : Txt K mg C A) : FnG P w K mg base 1 A.widest.1 A.widest.2 ["bands"] (toSp K 1 (sp_widest C)) :=
  Fun.pok T.widest.f sc_widest rfl (sh_widest C) fun cdv A' outer s H E hr hG =>
    (dss_one (ds_ret (de_tup (da_cons (de_max rfl rfl T.z_max (do_of (de_l (dl_comp rfl sc_widest.nd (own := [("low", 1), ("high", 2)]) (di_any (dv 0)) (blkOk_by rfl) (fun _ _ _ _ _ => (dg_tup rfl (dgs_cons (dg_nm 1 sc_widest.nd) (dgs_cons (dg_nm 2 sc_widest.nd) dgs_nil)))) (fun _ _ _ _ _ => dts_nil) (fun _ _ _ _ _ => (de_sub (do_of (dv 2)) (do_of (dv 1)))))))) (da_cons de_int da_nil)))))

theorem ok__law_begin (T : Txt K mg C A) : FnG P w K mg base 1 A._law_begin.1 A._law_begin.2 ["_law_script"] (toSp K 1 sp_begin) :=
  Fun.pok T._law_begin.f sc__law_begin rfl sh_begin fun cdv A' outer s H E hr hG =>
    (dss_cons (ds_setCO 1 rfl sc__law_begin.nd (sw_true rfl rfl rfl (by decide +kernel)) (own := [("_law_cell", 2)]) (di_list (dv 0)) (blkOk_by rfl) (fun _ _ _ _ _ => (dg_nm 2 sc__law_begin.nd)) (fun _ _ _ _ _ => (dts_one (dt_ge (do_of (de_abs rfl T.z_abs (do_of (dv 2)))) (do_of (de_pow (do_of de_int) (do_of de_int)))))) (fun _ _ _ _ _ => (de_abs rfl T.z_abs (do_of (dv 2))))) (dss_one (ds_retDraw (X := cxOf (L2.CX P w) P w K mg base ["_law_script", "_law_large", "_law_cell"] "_law_begin" (defScope s__law_begin) _ cdv A' outer s H E) rfl rfl (Or.inl rfl) (Or.inl rfl) (by decide) (by decide) (by decide) (by decide) rfl T.z_list)))

theorem ok__law_take (T : Txt K mg C A) : FnG P w K mg base 1 A._law_take.1 A._law_take.2 ["_law_draw", "_law_size"] (toSp K 2 sp_take) :=
  Fun.gok T._law_take.f sc__law_take (fun vs H Q E h => toSp_len h) fun cdv A' outer s H vs Q E hr hG h => ⟨rdTake K,
    (pss_cons (ps_if (L2.PW.pt (pw_and (pt_cmpR op_eq (dg0 hr "rest") pe_int (nomark _)) (pw_and1 (pt_cmpR (op_neD hr.units) (dg0 hr "large") (pe_lst pa_nil) (nomark _)))))
      (pss_one (ps_dput (hu_of hr) (pv 0) pe_str (pe_bm PySem.F.plainAttrs_list PySem.F.slot_list_pop PySem.F.type_list_pop mt_popAt (dg0 hr "large") (pa_cons pe_int pa_nil)) rfl))
      (pss_one (ps_if (pt_cmpR op_eq (dg0 hr "rest") pe_int (nomark _))
        (pss_cons (ps_dput (hu_of hr) (pv 0) pe_str (pe_op op_add (dg0 hr "turn") pe_int) rfl)
        (pss_cons (ps_for (passes_of rfl) rfl (pi_list (pe_op op_cat (pe_lst (pa_cons (dg0 hr "turn") pa_nil)) (dg0 hr "cells"))) (pg_name (i := 2) sc__law_take.nd rfl (Or.inl rfl))
          (pss_one (ps_dput (hu_of hr) (pv 0) pe_str (pe_op op_mod (pe_callTy call_int1 rfl T.z_int (by decide +kernel) (pa_cons (pe_op op_add (pe_op op_add (pe_op op_mul (dg0 hr "mix") pe_int) (pe_op op_mul (pv 2) pe_int)) pe_int) pa_nil) (by decide) (by decide)) pe_int) rfl)))
        (pss_one (ps_dput (hu_of hr) (pv 0) pe_str (pe_op op_mod (pe_callTy call_int1 rfl T.z_int (by decide +kernel) (pa_cons (pe_op op_pow (dg0 hr "mix") pe_int) pa_nil) (by decide) (by decide)) pe_int) rfl))))
        pss_nil)))
    (pss_cons (ps_asg (pe_callB call_divmodW rfl T.z_divmod (by decide +kernel) (pa_cons (dg0 hr "rest") (pa_cons (pv 1) pa_nil)) (by decide) (by decide)) (pg_tup rfl (pgs_cons (pg_sub (pv 0) pe_str (set_dict (hu_of hr))) (pgs_cons (pg_name (i := 3) sc__law_take.nd rfl (Or.inl rfl)) pgs_nil))))
    (pss_one (ps_ret (pv 3))))), take_run rfl h⟩

theorem ok__law_fraction (T : Txt K mg C A) : FnG P w K mg base 1 A._law_fraction.1 A._law_fraction.2 ["_law_top", "_law_bottom"] (toSp K 2 sp_frac2) :=
  Fun.pok T._law_fraction.f sc__law_fraction rfl sh_frac2 fun cdv A' outer s H E hr hG =>
    (dss_cons (ds_par 2 3 rfl sc__law_fraction.nd (da_cons (dv 0) (da_cons (dv 1) da_nil)))
      (dss_cons (ds_while (passes_of rfl) (dt_gt (do_of (dv 3)) (do_of de_int)) (dss_one (ds_par 2 3 rfl sc__law_fraction.nd (da_cons (dv 3) (da_cons (de_mod (do_of (dv 2)) (do_of (dv 3))) da_nil)))))
      (dss_one (ds_ret (de_tup (da_cons (de_div (do_of (dv 0)) (do_of (dv 2))) (da_cons (de_div (do_of (dv 1)) (do_of (dv 2))) da_nil)))))))

theorem ok__law_less (T : Txt K mg C A) : FnG P w K mg base 1 A._law_less.1 A._law_less.2 ["_law_one", "_law_other"] (toSp K 2 (sp__law_less C)) :=
  Fun.pok T._law_less.f sc__law_less rfl (sh__law_less C) fun cdv A' outer s H E hr hG =>
    (dss_one (ds_ret (de_lt (do_of (de_mul (do_of (de_ix (do_of (dv 0)) (do_of de_int))) (do_of (de_ix (do_of (dv 1)) (do_of de_int))))) (do_of (de_mul (do_of (de_ix (do_of (dv 1)) (do_of de_int))) (do_of (de_ix (do_of (dv 0)) (do_of de_int))))))))

theorem ok_is_between (T : Txt K mg C A) : FnG P w K mg base 2 A.is_between.1 A.is_between.2 ["thing", "low", "high"] (toSp K 3 (sp_is_between C)) :=
  Fun.pok T.is_between.f sc_is_between rfl (sh_is_between C) fun cdv A' outer s H E hr hG =>
    (dss_one (ds_ret (de_and (de_call (ok_is_integer T) rfl (fun _ _ _ _ h => ar1_len h) (hr.mono (by decide)) hG rfl T.is_integer.g T.is_integer.f.kp T.is_integer.b (takes_of rfl rfl rfl rfl) (da_cons (dv 0) da_nil)) (de_bone (de_ch op_le op_le (do_of (dv 1)) (do_of (dv 0)) (do_of (dv 2)))))))

theorem ok_is_speed (T : Txt K mg C A) : FnG P w K mg base 2 A.is_speed.1 A.is_speed.2 ["thing"] (toSp K 1 (sp_is_speed C)) :=
  Fun.pok T.is_speed.f sc_is_speed rfl (sh_is_speed C) fun cdv A' outer s H E hr hG =>
    (dss_cons (ds_if (DW.dt (dw_or (dt_not (dt_val (de_isi "tuple" (by decide) rfl T.z_isinstance rfl T.z_tuple (by decide +kernel) (do_of (dv 0))))) (dw_or (dt_ne hr.units (do_of (de_len rfl T.z_len (do_of (dv 0)))) (do_of de_int)) (dw_or1 (dt_not (dt_val (de_all rfl rfl T.z_all (do_of (de_l (dl_comp rfl sc_is_speed.nd (own := [("part", 1)]) (di_tup (dv 0)) (blkOk_by rfl) (fun _ _ _ _ _ => (dg_nm 1 sc_is_speed.nd)) (fun _ _ _ _ _ => dts_nil) (fun _ _ _ _ _ => (de_call (ok_is_integer T) rfl (fun _ _ _ _ h => ar1_len h) (hr.mono (by decide)) hG rfl T.is_integer.g T.is_integer.f.kp T.is_integer.b takes0 (da_cons (dv 1) da_nil))))))))))))) (dss_one (ds_ret de_bl)) dss_nil)
      (dss_one (ds_ret (de_and (de_ge (do_of (de_ix (do_of (dv 0)) (do_of de_int))) (do_of de_int)) (de_and (de_ge (do_of (de_ix (do_of (dv 0)) (do_of de_int))) (do_of de_int)) (de_bone (de_eq hr.units (do_of (de_call (ok_divisor T) rfl (fun _ _ _ _ h => ar2_len h) (hr.mono (by decide)) hG rfl T.divisor.g T.divisor.f.kp T.divisor.b (takes_of rfl rfl rfl rfl) (da_cons (de_ix (do_of (dv 0)) (do_of de_int)) (da_cons (de_ix (do_of (dv 0)) (do_of de_int)) da_nil)))) (do_of de_int))))))))

theorem ok_lowest (T : Txt K mg C A) : FnG P w K mg base 2 A.lowest.1 A.lowest.2 ["top", "bottom"] (toSp K 2 (sp_lowest C)) :=
  Fun.pok T.lowest.f sc_lowest rfl (sh_lowest C) fun cdv A' outer s H E hr hG =>
    (dss_cons (ds_set 2 sc_lowest.nd (de_call (ok_divisor T) rfl (fun _ _ _ _ h => ar2_len h) (hr.mono (by decide)) hG rfl T.divisor.g T.divisor.f.kp T.divisor.b (takes_of rfl rfl rfl rfl) (da_cons (dv 0) (da_cons (dv 1) da_nil))))
      (dss_one (ds_ret (de_tup (da_cons (de_div (do_of (dv 0)) (do_of (dv 2))) (da_cons (de_div (do_of (dv 1)) (do_of (dv 2))) da_nil))))))

theorem ok_greater (T : Txt K mg C A) : FnG P w K mg base 2 A.greater.1 A.greater.2 ["one", "other"] (toSp K 2 (sp_greater C)) :=
  Fun.pok T.greater.f sc_greater rfl (sh_greater C) fun cdv A' outer s H E hr hG =>
    (dss_one (ds_ret (de_ife (dt_val (de_call (ok_is_below T) rfl (fun _ _ _ _ h => ar2_len h) (hr.mono (by decide)) hG rfl T.is_below.g T.is_below.f.kp T.is_below.b (takes_of rfl rfl rfl rfl) (da_cons (dv 0) (da_cons (dv 1) da_nil)))) (dv 1) (dv 0))))

theorem ok__law_pick (T : Txt K mg C A) : FnG P w K mg base 2 A._law_pick.1 A._law_pick.2 ["_law_draw", "_law_some"] (toSp K 2 sp_pick) :=
  Fun.pok T._law_pick.f sc__law_pick rfl sh_pick fun cdv A' outer s H E hr hG =>
    (dss_one (ds_ret (de_ix (do_of (dv 1)) (do_of (de_call (ok__law_take T) rfl (fun _ _ _ _ h => ar2_len h) (hr.mono (by decide)) hG rfl T._law_take.g T._law_take.f.kp T._law_take.b (takes_of rfl rfl rfl rfl) (da_cons (dv 0) (da_cons (de_len rfl T.z_len (do_of (dv 1))) da_nil)))))))

theorem ok__law_alone (T : Txt K mg C A) : FnG P w K mg base 2 A._law_alone.1 A._law_alone.2 ["_law_low", "_law_high", "_law_first", "_law_last"] (toSp K 4 (sp__law_alone C)) :=
  Fun.pok T._law_alone.f sc__law_alone rfl (sh__law_alone C) fun cdv A' outer s H E hr hG =>
    (dss_cons (ds_setO 4 sc__law_alone.nd (dl_lst da_nil))
      (dss_cons (ds_for (passes_of rfl) rfl (di_r3 rfl T.z_range (de_div (do_of (dv 1)) (do_of (de_sub (do_of (dv 1)) (do_of (dv 0))))) de_int (de_neg (do_of de_int))) (dg_nm 5 sc__law_alone.nd) (dss_cons (ds_par 6 7 rfl sc__law_alone.nd (da_cons (de_call (ok__law_fraction T) rfl (fun _ _ _ _ h => ar2_len h) (hr.mono (by decide)) hG rfl T._law_fraction.g T._law_fraction.f.kp T._law_fraction.b (takes_of rfl rfl rfl rfl) (da_cons (dv 1) (da_cons (dv 5) da_nil))) (da_cons (de_ife (dt_gt (do_of (dv 5)) (do_of de_int)) (de_call (ok__law_fraction T) rfl (fun _ _ _ _ h => ar2_len h) (hr.mono (by decide)) hG rfl T._law_fraction.g T._law_fraction.f.kp T._law_fraction.b (takes_of rfl rfl rfl rfl) (da_cons (dv 0) (da_cons (de_sub (do_of (dv 5)) (do_of de_int)) da_nil))) (dv 3)) da_nil)))
      (dss_cons (ds_par 6 7 rfl sc__law_alone.nd (da_cons (de_ife (dt_val (de_call (ok__law_less T) rfl (fun _ _ _ _ h => ar2_len h) (hr.mono (by decide)) hG rfl T._law_less.g T._law_less.f.kp T._law_less.b (takes_of rfl rfl rfl rfl) (da_cons (dv 6) (da_cons (dv 2) da_nil)))) (dv 2) (dv 6)) (da_cons (de_ife (dt_val (de_call (ok__law_less T) rfl (fun _ _ _ _ h => ar2_len h) (hr.mono (by decide)) hG rfl T._law_less.g T._law_less.f.kp T._law_less.b (takes_of rfl rfl rfl rfl) (da_cons (dv 3) (da_cons (dv 7) da_nil)))) (dv 3) (dv 7)) da_nil)))
      (dss_one (ds_if (dt_not (dt_val (de_call (ok__law_less T) rfl (fun _ _ _ _ h => ar2_len h) (hr.mono (by decide)) hG rfl T._law_less.g T._law_less.f.kp T._law_less.b (takes_of rfl rfl rfl rfl) (da_cons (dv 7) (da_cons (dv 6) da_nil))))) (dss_one (ds_app 4 (de_tup (da_cons (dv 6) (da_cons de_bl (da_cons (dv 7) (da_cons de_bl da_nil))))))) dss_nil)))))
      (dss_one (ds_frz 4 (ds_ret (dv 4))))))

theorem ok__law_times (T : Txt K mg C A) : FnG P w K mg base 2 A._law_times.1 A._law_times.2 ["_law_one", "_law_times_here"] (toSp K 2 (sp__law_times C)) :=
  Fun.pok T._law_times.f sc__law_times rfl (sh__law_times C) fun cdv A' outer s H E hr hG =>
    (dss_one (ds_ret (de_call (ok__law_fraction T) rfl (fun _ _ _ _ h => ar2_len h) (hr.mono (by decide)) hG rfl T._law_fraction.g T._law_fraction.f.kp T._law_fraction.b (takes_of rfl rfl rfl rfl) (da_cons (de_mul (do_of (de_ix (do_of (dv 0)) (do_of de_int))) (do_of (dv 1))) (da_cons (de_ix (do_of (dv 0)) (do_of de_int)) da_nil)))))

theorem ok_is_band (T : Txt K mg C A) : FnG P w K mg base 3 A.is_band.1 A.is_band.2 ["thing"] (toSp K 1 (sp_is_band C)) :=
  Fun.pok T.is_band.f sc_is_band rfl (sh_is_band C) fun cdv A' outer s H E hr hG =>
    (dss_cons (ds_if (DW.dt (dw_or (dt_not (dt_val (de_isi "tuple" (by decide) rfl T.z_isinstance rfl T.z_tuple (by decide +kernel) (do_of (dv 0))))) (dw_or (dt_ne hr.units (do_of (de_len rfl T.z_len (do_of (dv 0)))) (do_of de_int)) (dw_or1 (dt_not (dt_val (de_call (ok_is_between T) rfl (fun _ _ _ _ h => ar3_len h) (hr.mono (by decide)) hG rfl T.is_between.g T.is_between.f.kp T.is_between.b (takes_of rfl rfl rfl rfl) (da_cons (de_ix (do_of (dv 0)) (do_of de_int)) (da_cons de_int (da_cons (de_gintE rfl T.c_GREATEST_END) da_nil)))))))))) (dss_one (ds_ret de_bl)) dss_nil)
      (dss_one (ds_ret (de_call (ok_is_between T) rfl (fun _ _ _ _ h => ar3_len h) (hr.mono (by decide)) hG rfl T.is_between.g T.is_between.f.kp T.is_between.b (takes_of rfl rfl rfl rfl) (da_cons (de_ix (do_of (dv 0)) (do_of de_int)) (da_cons (de_add (do_of (de_ix (do_of (dv 0)) (do_of de_int))) (do_of de_int)) (da_cons (de_gintE rfl T.c_GREATEST_END) da_nil)))))))

theorem ok_is_rate (T : Txt K mg C A) : FnG P w K mg base 3 A.is_rate.1 A.is_rate.2 ["thing"] (toSp K 1 (sp_is_rate C)) :=
  Fun.pok T.is_rate.f sc_is_rate rfl (sh_is_rate C) fun cdv A' outer s H E hr hG =>
    (dss_one (ds_ret (de_and (de_call (ok_is_speed T) rfl (fun _ _ _ _ h => ar1_len h) (hr.mono (by decide)) hG rfl T.is_speed.g T.is_speed.f.kp T.is_speed.b (takes_of rfl rfl rfl rfl) (da_cons (dv 0) da_nil)) (de_bone (de_gt (do_of (de_ix (do_of (dv 0)) (do_of de_int))) (do_of de_int))))))

theorem ok_gap_in (T : Txt K mg C A) : FnG P w K mg base 3 A.gap_in.1 A.gap_in.2 ["low", "high", "rate"] (toSp K 3 (sp_gap_in C)) :=
  Fun.pok T.gap_in.f sc_gap_in rfl (sh_gap_in C) fun cdv A' outer s H E hr hG =>
    (dss_cons (ds_set 3 sc_gap_in.nd (de_neg (do_of (de_div (do_of (de_mul (do_of (de_neg (do_of (dv 0)))) (do_of (de_ix (do_of (dv 2)) (do_of de_int))))) (do_of (de_mul (do_of de_int) (do_of (de_ix (do_of (dv 2)) (do_of de_int)))))))))
      (dss_one (ds_ret (de_ife (dt_le (do_of (de_mul (do_of (de_mul (do_of de_int) (do_of (dv 3)))) (do_of (de_ix (do_of (dv 2)) (do_of de_int))))) (do_of (de_mul (do_of (dv 1)) (do_of (de_ix (do_of (dv 2)) (do_of de_int)))))) (de_call (ok_lowest T) rfl (fun _ _ _ _ h => ar2_len h) (hr.mono (by decide)) hG rfl T.lowest.g T.lowest.f.kp T.lowest.b (takes_of rfl rfl rfl rfl) (da_cons (de_mul (do_of (de_mul (do_of de_int) (do_of (dv 3)))) (do_of (de_ix (do_of (dv 2)) (do_of de_int)))) (da_cons (de_ix (do_of (dv 2)) (do_of de_int)) da_nil))) de_non))))

theorem ok_moved (T : Txt K mg C A) : FnG P w K mg base 3 A.moved.1 A.moved.2 ["number", "gap", "turn"] (toSp K 3 (sp_moved C)) :=
  Fun.pok T.moved.f sc_moved rfl (sh_moved C) fun cdv A' outer s H E hr hG =>
    (dss_one (ds_ret (de_call (ok_lowest T) rfl (fun _ _ _ _ h => ar2_len h) (hr.mono (by decide)) hG rfl T.lowest.g T.lowest.f.kp T.lowest.b (takes_of rfl rfl rfl rfl) (da_cons (de_add (do_of (de_mul (do_of (dv 0)) (do_of (de_ix (do_of (dv 1)) (do_of de_int))))) (do_of (de_mul (do_of (dv 2)) (do_of (de_ix (do_of (dv 1)) (do_of de_int)))))) (da_cons (de_ix (do_of (dv 1)) (do_of de_int)) da_nil)))))

theorem ok_next_change (T : Txt K mg C A) : FnG P w K mg base 3 A.next_change.1 A.next_change.2 ["constants", "rate"] (toSp K 2 (sp_next_change C)) :=
  Fun.pok T.next_change.f sc_next_change rfl (sh_next_change C) fun cdv A' outer s H E hr hG =>
    (dss_cons (ds_set 2 sc_next_change.nd de_non)
      (dss_cons (ds_for (passes_of rfl) rfl (di_any (dv 0)) (dg_nm 3 sc_next_change.nd) (dss_cons (ds_set 4 sc_next_change.nd (de_div (do_of (de_sub (do_of (de_mul (do_of (dv 3)) (do_of (de_ix (do_of (dv 1)) (do_of de_int))))) (do_of de_int))) (do_of (de_mul (do_of de_int) (do_of (de_ix (do_of (dv 1)) (do_of de_int)))))))
      (dss_one (ds_if (DW.dt (dw_and (dt_gt (do_of (dv 4)) (do_of de_int)) (dw_and1 (DW.dt (dw_or (dt_is (do_of (dv 2)) (do_of de_non)) (dw_or1 (dt_val (de_call (ok_is_below T) rfl (fun _ _ _ _ h => ar2_len h) (hr.mono (by decide)) hG rfl T.is_below.g T.is_below.f.kp T.is_below.b (takes_of rfl rfl rfl rfl) (da_cons (de_tup (da_cons (dv 3) (da_cons (de_mul (do_of de_int) (do_of (dv 4))) da_nil))) (da_cons (dv 2) da_nil)))))))))) (dss_one (ds_set 2 sc_next_change.nd (de_call (ok_lowest T) rfl (fun _ _ _ _ h => ar2_len h) (hr.mono (by decide)) hG rfl T.lowest.g T.lowest.f.kp T.lowest.b (takes_of rfl rfl rfl rfl) (da_cons (dv 3) (da_cons (de_mul (do_of de_int) (do_of (dv 4))) da_nil))))) dss_nil))))
      (dss_one (ds_ret (dv 2)))))

theorem ok_between (T : Txt K mg C A) : FnG P w K mg base 3 A.between.1 A.between.2 ["one", "other"] (toSp K 2 (sp_between C)) :=
  Fun.pok T.between.f sc_between rfl (sh_between C) fun cdv A' outer s H E hr hG =>
    (dss_cons (ds_if (dt_is (do_of (dv 1)) (do_of de_non)) (dss_one (ds_ret (de_tup (da_cons (de_add (do_of (de_div (do_of (de_ix (do_of (dv 0)) (do_of de_int))) (do_of (de_ix (do_of (dv 0)) (do_of de_int))))) (do_of de_int)) (da_cons de_int da_nil))))) dss_nil)
      (dss_one (ds_ret (de_call (ok_lowest T) rfl (fun _ _ _ _ h => ar2_len h) (hr.mono (by decide)) hG rfl T.lowest.g T.lowest.f.kp T.lowest.b (takes_of rfl rfl rfl rfl) (da_cons (de_add (do_of (de_mul (do_of (de_ix (do_of (dv 0)) (do_of de_int))) (do_of (de_ix (do_of (dv 1)) (do_of de_int))))) (do_of (de_mul (do_of (de_ix (do_of (dv 1)) (do_of de_int))) (do_of (de_ix (do_of (dv 0)) (do_of de_int)))))) (da_cons (de_mul (do_of (de_mul (do_of de_int) (do_of (de_ix (do_of (dv 0)) (do_of de_int))))) (do_of (de_ix (do_of (dv 1)) (do_of de_int)))) da_nil))))))

theorem ok__law_bands (T : Txt K mg C A) : FnG P w K mg base 3 A._law_bands.1 A._law_bands.2 ["_law_draw"] (toSp K 1 (sp__law_bands C)) :=
  Fun.pok T._law_bands.f sc__law_bands rfl (sh__law_bands C) fun cdv A' outer s H E hr hG =>
    (dss_cons (ds_parL3 1 2 3 rfl sc__law_bands.nd (de_call (ok__law_pick T) rfl (fun _ _ _ _ h => ar2_len h) (hr.mono (by decide)) hG rfl T._law_pick.g T._law_pick.f.kp T._law_pick.b (takes_of rfl rfl rfl rfl) (da_cons (dv 0) (da_cons (de_l (dl_lst (da_cons de_int (da_cons de_int (da_cons de_int (da_cons de_int (da_cons de_int da_nil))))))) da_nil))) pure_neg (fun _ => rfl))
      (dss_cons (ds_for (passes_of rfl) rfl (di_r1 rfl T.z_range (de_call (ok__law_pick T) rfl (fun _ _ _ _ h => ar2_len h) (hr.mono (by decide)) hG rfl T._law_pick.g T._law_pick.f.kp T._law_pick.b (takes_of rfl rfl rfl rfl) (da_cons (dv 0) (da_cons (de_l (dl_lst (da_cons de_int (da_cons de_int (da_cons de_int (da_cons de_int (da_cons de_int da_nil))))))) da_nil)))) (dg_nm 4 sc__law_bands.nd) (dss_cons (ds_set 5 sc__law_bands.nd (de_add (do_of (de_add (do_of (dv 3)) (do_of de_int))) (do_of (de_call (ok__law_take T) rfl (fun _ _ _ _ h => ar2_len h) (hr.mono (by decide)) hG rfl T._law_take.g T._law_take.f.kp T._law_take.b (takes_of rfl rfl rfl rfl) (da_cons (dv 0) (da_cons (dv 1) da_nil))))))
      (dss_cons (ds_set 6 sc__law_bands.nd (de_add (do_of (de_add (do_of (dv 5)) (do_of de_int))) (do_of (de_call (ok__law_take T) rfl (fun _ _ _ _ h => ar2_len h) (hr.mono (by decide)) hG rfl T._law_take.g T._law_take.f.kp T._law_take.b (takes_of rfl rfl rfl rfl) (da_cons (dv 0) (da_cons (de_call (ok__law_pick T) rfl (fun _ _ _ _ h => ar2_len h) (hr.mono (by decide)) hG rfl T._law_pick.g T._law_pick.f.kp T._law_pick.b (takes_of rfl rfl rfl rfl) (da_cons (dv 0) (da_cons (de_l (dl_lst (da_cons de_int (da_cons de_int (da_cons de_int da_nil))))) da_nil))) da_nil))))))
      (dss_cons (ds_app 2 (de_tup (da_cons (dv 5) (da_cons (dv 6) da_nil))))
      (dss_one (ds_set 3 sc__law_bands.nd (dv 6)))))))
      (dss_one (ds_frz 2 (ds_ret (de_ife (dt_le (do_of (dv 3)) (do_of de_int)) (dv 2) (de_l (dl_lst (da_cons (de_tup (da_cons de_int (da_cons de_int da_nil))) (da_cons (de_tup (da_cons de_int (da_cons de_int da_nil))) da_nil))))))))))

theorem ok__law_rate (T : Txt K mg C A) : FnG P w K mg base 3 A._law_rate.1 A._law_rate.2 ["_law_draw"] (toSp K 1 (sp__law_rate C)) :=
  Fun.pok T._law_rate.f sc__law_rate rfl (sh__law_rate C) fun cdv A' outer s H E hr hG =>
    (dss_cons (ds_set 1 sc__law_rate.nd (de_call (ok__law_pick T) rfl (fun _ _ _ _ h => ar2_len h) (hr.mono (by decide)) hG rfl T._law_pick.g T._law_pick.f.kp T._law_pick.b (takes_of rfl rfl rfl rfl) (da_cons (dv 0) (da_cons (de_l (dl_lst (da_cons de_int (da_cons de_int (da_cons de_int (da_cons de_int (da_cons de_int (da_cons de_int da_nil)))))))) da_nil))))
      (dss_one (ds_ret (de_call (ok__law_fraction T) rfl (fun _ _ _ _ h => ar2_len h) (hr.mono (by decide)) hG rfl T._law_fraction.g T._law_fraction.f.kp T._law_fraction.b (takes_of rfl rfl rfl rfl) (da_cons (de_add (do_of de_int) (do_of (de_call (ok__law_take T) rfl (fun _ _ _ _ h => ar2_len h) (hr.mono (by decide)) hG rfl T._law_take.g T._law_take.f.kp T._law_take.b (takes_of rfl rfl rfl rfl) (da_cons (dv 0) (da_cons (de_mul (do_of (de_call (ok__law_pick T) rfl (fun _ _ _ _ h => ar2_len h) (hr.mono (by decide)) hG rfl T._law_pick.g T._law_pick.f.kp T._law_pick.b (takes_of rfl rfl rfl rfl) (da_cons (dv 0) (da_cons (de_l (dl_lst (da_cons de_int (da_cons de_int (da_cons de_int da_nil))))) da_nil)))) (do_of (dv 1))) da_nil))))) (da_cons (dv 1) da_nil))))))

theorem ok_need_bands (T : Txt K mg C A) : FnG P w K mg base 4 A.need_bands.1 A.need_bands.2 ["bands"] (toSp K 1 (sp_need_bands C)) :=
  Fun.pok T.need_bands.f sc_need_bands rfl (sh_need_bands C) fun cdv A' outer s H E hr hG =>
    (dss_cons (ds_if (DW.dt (dw_or (dt_not (dt_val (de_isi2 "list" "tuple" (by decide) (by decide) rfl T.z_isinstance rfl T.z_list (by decide +kernel) rfl T.z_tuple (by decide +kernel) (do_of (dv 0))))) (dw_or1 (dt_eq hr.units (do_of (de_len rfl T.z_len (do_of (dv 0)))) (do_of de_int))))) (dss_one ds_never) dss_nil)
      (dss_one (ds_for (passes_of rfl) rfl (di_enumA rfl T.z_enumerate (dv 0)) (dg_tup rfl (dgs_cons (dg_nm 1 sc_need_bands.nd) (dgs_cons (dg_nm 2 sc_need_bands.nd) dgs_nil))) (dss_one (ds_if (DW.dt (dw_or (dt_eq hr.units (do_of (dv 1)) (do_of (de_gintE rfl T.c_MOST_BANDS))) (dw_or (dt_not (dt_val (de_call (ok_is_band T) rfl (fun _ _ _ _ h => ar1_len h) (hr.mono (by decide)) hG rfl T.is_band.g T.is_band.f.kp T.is_band.b (takes_of rfl rfl rfl rfl) (da_cons (dv 2) da_nil)))) (dw_or1 (DW.dt (dw_and (dt_gt (do_of (dv 1)) (do_of de_int)) (dw_and1 (dt_le (do_of (de_ix (do_of (dv 2)) (do_of de_int))) (do_of (de_ix (do_of (de_ix (do_of (dv 0)) (do_of (de_sub (do_of (dv 1)) (do_of de_int))))) (do_of de_int))))))))))) (dss_one ds_never) dss_nil)))))

theorem ok_need_rate (T : Txt K mg C A) : FnG P w K mg base 4 A.need_rate.1 A.need_rate.2 ["thing"] (toSp K 1 (sp_need_rate C)) :=
  Fun.pok T.need_rate.f sc_need_rate rfl (sh_need_rate C) fun cdv A' outer s H E hr hG =>
    (dss_one (ds_if (dt_not (dt_val (de_call (ok_is_rate T) rfl (fun _ _ _ _ h => ar1_len h) (hr.mono (by decide)) hG rfl T.is_rate.g T.is_rate.f.kp T.is_rate.b (takes_of rfl rfl rfl rfl) (da_cons (dv 0) da_nil)))) (dss_one (ds_raise rfl (takes_of rfl rfl rfl rfl) T.x_BadSpeed rfl)) dss_nil))

theorem ok_alike_in (T : Txt K mg C A) : FnG P w K mg base 4 A.alike_in.1 A.alike_in.2 ["one", "other", "rate"] (toSp K 3 (sp_alike_in C)) :=
  Fun.pok T.alike_in.f sc_alike_in rfl (sh_alike_in C) fun cdv A' outer s H E hr hG =>
    (dss_cons (ds_set 3 sc_alike_in.nd (de_call (ok_gap_in T) rfl (fun _ _ _ _ h => ar3_len h) (hr.mono (by decide)) hG rfl T.gap_in.g T.gap_in.f.kp T.gap_in.b (takes_of rfl rfl rfl rfl) (da_cons (de_add (do_of (de_ix (do_of (dv 0)) (do_of de_int))) (do_of (de_ix (do_of (dv 1)) (do_of de_int)))) (da_cons (de_add (do_of (de_ix (do_of (dv 0)) (do_of de_int))) (do_of (de_ix (do_of (dv 1)) (do_of de_int)))) (da_cons (dv 2) da_nil)))))
      (dss_cons (ds_if (dt_isnot (do_of (dv 3)) (do_of de_non)) (dss_cons (ds_set 4 sc_alike_in.nd (de_tup (da_cons (de_ix (do_of (dv 0)) (do_of de_int)) (da_cons de_int da_nil))))
      (dss_cons (ds_if (dt_lt (do_of (de_mul (do_of (de_ix (do_of (dv 1)) (do_of de_int))) (do_of (de_ix (do_of (dv 3)) (do_of de_int))))) (do_of (de_ix (do_of (dv 3)) (do_of de_int)))) (dss_one (ds_set 4 sc_alike_in.nd (de_call (ok_greater T) rfl (fun _ _ _ _ h => ar2_len h) (hr.mono (by decide)) hG rfl T.greater.g T.greater.f.kp T.greater.b (takes_of rfl rfl rfl rfl) (da_cons (dv 4) (da_cons (de_call (ok_moved T) rfl (fun _ _ _ _ h => ar3_len h) (hr.mono (by decide)) hG rfl T.moved.g T.moved.f.kp T.moved.b (takes_of rfl rfl rfl rfl) (da_cons (de_neg (do_of (de_ix (do_of (dv 1)) (do_of de_int)))) (da_cons (dv 3) (da_cons de_int da_nil)))) da_nil))))) dss_nil)
      (dss_one (ds_ret (de_tup (da_cons (dv 4) (da_cons (de_call (ok_lowest T) rfl (fun _ _ _ _ h => ar2_len h) (hr.mono (by decide)) hG rfl T.lowest.g T.lowest.f.kp T.lowest.b (takes_of rfl rfl rfl rfl) (da_cons (de_sub (do_of (de_mul (do_of (de_ix (do_of (dv 3)) (do_of de_int))) (do_of (de_ix (do_of (dv 4)) (do_of de_int))))) (do_of (de_mul (do_of (de_ix (do_of (dv 4)) (do_of de_int))) (do_of (de_ix (do_of (dv 3)) (do_of de_int)))))) (da_cons (de_mul (do_of (de_ix (do_of (dv 3)) (do_of de_int))) (do_of (de_ix (do_of (dv 4)) (do_of de_int)))) da_nil))) da_nil))))))) dss_nil)
      (dss_cons (ds_set 3 sc_alike_in.nd (de_call (ok_gap_in T) rfl (fun _ _ _ _ h => ar3_len h) (hr.mono (by decide)) hG rfl T.gap_in.g T.gap_in.f.kp T.gap_in.b (takes_of rfl rfl rfl rfl) (da_cons (de_sub (do_of (de_ix (do_of (dv 1)) (do_of de_int))) (do_of (de_ix (do_of (dv 0)) (do_of de_int)))) (da_cons (de_sub (do_of (de_ix (do_of (dv 1)) (do_of de_int))) (do_of (de_ix (do_of (dv 0)) (do_of de_int)))) (da_cons (dv 2) da_nil)))))
      (dss_cons (ds_if (dt_is (do_of (dv 3)) (do_of de_non)) (dss_one (ds_ret de_non)) dss_nil)
      (dss_cons (ds_set 4 sc_alike_in.nd (de_tup (da_cons (de_ix (do_of (dv 0)) (do_of de_int)) (da_cons de_int da_nil))))
      (dss_cons (ds_if (dt_gt (do_of (de_mul (do_of (de_ix (do_of (dv 1)) (do_of de_int))) (do_of (de_ix (do_of (dv 3)) (do_of de_int))))) (do_of (de_ix (do_of (dv 3)) (do_of de_int)))) (dss_one (ds_set 4 sc_alike_in.nd (de_call (ok_greater T) rfl (fun _ _ _ _ h => ar2_len h) (hr.mono (by decide)) hG rfl T.greater.g T.greater.f.kp T.greater.b (takes_of rfl rfl rfl rfl) (da_cons (dv 4) (da_cons (de_call (ok_moved T) rfl (fun _ _ _ _ h => ar3_len h) (hr.mono (by decide)) hG rfl T.moved.g T.moved.f.kp T.moved.b (takes_of rfl rfl rfl rfl) (da_cons (de_ix (do_of (dv 1)) (do_of de_int)) (da_cons (dv 3) (da_cons (de_neg (do_of de_int)) da_nil)))) da_nil))))) dss_nil)
      (dss_one (ds_ret (de_tup (da_cons (dv 4) (da_cons (de_call (ok_lowest T) rfl (fun _ _ _ _ h => ar2_len h) (hr.mono (by decide)) hG rfl T.lowest.g T.lowest.f.kp T.lowest.b (takes_of rfl rfl rfl rfl) (da_cons (de_add (do_of (de_mul (do_of (de_ix (do_of (dv 4)) (do_of de_int))) (do_of (de_ix (do_of (dv 3)) (do_of de_int))))) (do_of (de_mul (do_of (de_ix (do_of (dv 3)) (do_of de_int))) (do_of (de_ix (do_of (dv 4)) (do_of de_int)))))) (da_cons (de_mul (do_of (de_ix (do_of (dv 4)) (do_of de_int))) (do_of (de_ix (do_of (dv 3)) (do_of de_int)))) da_nil))) da_nil)))))))))))

theorem ok__law_near_rate (T : Txt K mg C A) : FnG P w K mg base 4 A._law_near_rate.1 A._law_near_rate.2 ["_law_draw", "_law_bands_here"] (toSp K 2 (sp__law_near_rate C)) :=
  Fun.pok T._law_near_rate.f sc__law_near_rate rfl (sh__law_near_rate C) fun cdv A' outer s H E hr hG =>
    (dss_cons (ds_par 2 3 rfl sc__law_near_rate.nd (da_cons (de_call (ok__law_pick T) rfl (fun _ _ _ _ h => ar2_len h) (hr.mono (by decide)) hG rfl T._law_pick.g T._law_pick.f.kp T._law_pick.b (takes_of rfl rfl rfl rfl) (da_cons (dv 0) (da_cons (dv 1) da_nil))) (da_cons (de_call (ok__law_pick T) rfl (fun _ _ _ _ h => ar2_len h) (hr.mono (by decide)) hG rfl T._law_pick.g T._law_pick.f.kp T._law_pick.b (takes_of rfl rfl rfl rfl) (da_cons (dv 0) (da_cons (dv 1) da_nil))) da_nil)))
      (dss_cons (ds_set 4 sc__law_near_rate.nd (de_l (dl_lst (da_cons (de_mul (do_of de_int) (do_of (de_ix (do_of (dv 2)) (do_of de_int)))) (da_cons (de_mul (do_of de_int) (do_of (de_ix (do_of (dv 2)) (do_of de_int)))) (da_cons (de_add (do_of (de_ix (do_of (dv 2)) (do_of de_int))) (do_of (de_ix (do_of (dv 3)) (do_of de_int)))) (da_cons (de_add (do_of (de_ix (do_of (dv 2)) (do_of de_int))) (do_of (de_ix (do_of (dv 3)) (do_of de_int)))) (da_cons (de_abs rfl T.z_abs (do_of (de_sub (do_of (de_ix (do_of (dv 2)) (do_of de_int))) (do_of (de_ix (do_of (dv 3)) (do_of de_int)))))) da_nil))))))))
      (dss_cons (ds_set 5 sc__law_near_rate.nd (de_call (ok__law_pick T) rfl (fun _ _ _ _ h => ar2_len h) (hr.mono (by decide)) hG rfl T._law_pick.g T._law_pick.f.kp T._law_pick.b (takes_of rfl rfl rfl rfl) (da_cons (dv 0) (da_cons (dv 4) da_nil))))
      (dss_cons (ds_set 6 sc__law_near_rate.nd (de_call (ok__law_fraction T) rfl (fun _ _ _ _ h => ar2_len h) (hr.mono (by decide)) hG rfl T._law_fraction.g T._law_fraction.f.kp T._law_fraction.b (takes_of rfl rfl rfl rfl) (da_cons (de_max2 rfl rfl T.z_max (do_of de_int) (do_of (dv 5))) (da_cons (de_mul (do_of de_int) (do_of (de_add (do_of de_int) (do_of (de_call (ok__law_take T) rfl (fun _ _ _ _ h => ar2_len h) (hr.mono (by decide)) hG rfl T._law_take.g T._law_take.f.kp T._law_take.b (takes_of rfl rfl rfl rfl) (da_cons (dv 0) (da_cons de_int da_nil))))))) da_nil))))
      (dss_cons (ds_set 7 sc__law_near_rate.nd (de_call (ok__law_take T) rfl (fun _ _ _ _ h => ar2_len h) (hr.mono (by decide)) hG rfl T._law_take.g T._law_take.f.kp T._law_take.b (takes_of rfl rfl rfl rfl) (da_cons (dv 0) (da_cons de_int da_nil))))
      (dss_cons (ds_if (dt_eq hr.units (do_of (dv 7)) (do_of de_int)) (dss_one (ds_ret (de_call (ok__law_rate T) rfl (fun _ _ _ _ h => ar1_len h) (hr.mono (by decide)) hG rfl T._law_rate.g T._law_rate.f.kp T._law_rate.b (takes_of rfl rfl rfl rfl) (da_cons (dv 0) da_nil)))) dss_nil)
      (dss_cons (ds_if (dt_eq hr.units (do_of (dv 7)) (do_of de_int)) (dss_one (ds_ret (de_call (ok__law_fraction T) rfl (fun _ _ _ _ h => ar2_len h) (hr.mono (by decide)) hG rfl T._law_fraction.g T._law_fraction.f.kp T._law_fraction.b (takes_of rfl rfl rfl rfl) (da_cons (de_add (do_of (de_mul (do_of (de_ix (do_of (dv 6)) (do_of de_int))) (do_of (de_pow (do_of de_int) (do_of de_int))))) (do_of de_int)) (da_cons (de_mul (do_of (de_ix (do_of (dv 6)) (do_of de_int))) (do_of (de_pow (do_of de_int) (do_of de_int)))) da_nil))))) dss_nil)
      (dss_one (ds_ret (de_ife (dt_eq hr.units (do_of (dv 7)) (do_of de_int)) (de_call (ok__law_fraction T) rfl (fun _ _ _ _ h => ar2_len h) (hr.mono (by decide)) hG rfl T._law_fraction.g T._law_fraction.f.kp T._law_fraction.b (takes_of rfl rfl rfl rfl) (da_cons (de_sub (do_of (de_mul (do_of (de_ix (do_of (dv 6)) (do_of de_int))) (do_of (de_pow (do_of de_int) (do_of de_int))))) (do_of de_int)) (da_cons (de_mul (do_of (de_ix (do_of (dv 6)) (do_of de_int))) (do_of (de_pow (do_of de_int) (do_of de_int)))) da_nil))) (dv 6)))))))))))

theorem ok_clash_of (T : Txt K mg C A) : FnG P w K mg base 5 A.clash_of.1 A.clash_of.2 ["bands", "rate"] (toSp K 2 (sp_clash_of C)) :=
  Fun.pok T.clash_of.f sc_clash_of rfl (sh_clash_of C) fun cdv A' outer s H E hr hG =>
    (dss_cons (ds_for (passes_of rfl) rfl (di_enumA rfl T.z_enumerate (dv 0)) (dg_tup rfl (dgs_cons (dg_nm 2 sc_clash_of.nd) (dgs_cons (dg_nm 3 sc_clash_of.nd) dgs_nil))) (dss_cons (ds_set 4 sc_clash_of.nd (de_call (ok_fold_in T) rfl (fun _ _ _ _ h => ar2_len h) (hr.mono (by decide)) hG rfl T.fold_in.g T.fold_in.f.kp T.fold_in.b (takes_of rfl rfl rfl rfl) (da_cons (dv 3) (da_cons (dv 1) da_nil))))
      (dss_one (ds_if (dt_isnot (do_of (dv 4)) (do_of de_non)) (dss_one (ds_ret (de_tup (da_cons de_str (da_cons (dv 2) (da_cons (dv 4) da_nil)))))) dss_nil))))
      (dss_cons (ds_for (passes_of rfl) rfl (di_enumA rfl T.z_enumerate (dv 0)) (dg_tup rfl (dgs_cons (dg_nm 2 sc_clash_of.nd) (dgs_cons (dg_nm 3 sc_clash_of.nd) dgs_nil))) (dss_one (ds_for (passes_of rfl) rfl (di_any (de_sl (do_of (dv 0)) (dp_pt (de_add (do_of (dv 2)) (do_of de_int))) dp_no)) (dg_nm 5 sc_clash_of.nd) (dss_cons (ds_set 6 sc_clash_of.nd (de_call (ok_alike_in T) rfl (fun _ _ _ _ h => ar3_len h) (hr.mono (by decide)) hG rfl T.alike_in.g T.alike_in.f.kp T.alike_in.b (takes_of rfl rfl rfl rfl) (da_cons (dv 3) (da_cons (dv 5) (da_cons (dv 1) da_nil)))))
      (dss_one (ds_if (dt_isnot (do_of (dv 6)) (do_of de_non)) (dss_one (ds_ret (de_tup (da_cons de_str (da_cons (de_ix (do_of (dv 6)) (do_of de_int)) (da_cons (de_ix (do_of (dv 6)) (do_of de_int)) da_nil)))))) dss_nil))))))
      (dss_one (ds_ret de_non))))

theorem ok_clash_at (T : Txt K mg C A) : FnG P w K mg base 6 A.clash_at.1 A.clash_at.2 ["bands", "half"] (toSp K 2 (sp_clash_at C)) :=
  Fun.pok T.clash_at.f sc_clash_at rfl (sh_clash_at C) fun cdv A' outer s H E hr hG =>
    (dss_cons (ds_expr (de_call (ok_need_bands T) rfl (fun _ _ _ _ h => ar1_len h) (hr.mono (by decide)) hG rfl T.need_bands.g T.need_bands.f.kp T.need_bands.b (takes_of rfl rfl rfl rfl) (da_cons (dv 0) da_nil)))
      (dss_cons (ds_expr (de_call (ok_need_rate T) rfl (fun _ _ _ _ h => ar1_len h) (hr.mono (by decide)) hG rfl T.need_rate.g T.need_rate.f.kp T.need_rate.b (takes_of rfl rfl rfl rfl) (da_cons (dv 1) da_nil)))
      (dss_one (ds_ret (de_call (ok_clash_of T) rfl (fun _ _ _ _ h => ar2_len h) (hr.mono (by decide)) hG rfl T.clash_of.g T.clash_of.f.kp T.clash_of.b (takes_of rfl rfl rfl rfl) (da_cons (dv 0) (da_cons (dv 1) da_nil)))))))

theorem ok_clear_from (T : Txt K mg C A) : FnG P w K mg base 6 A.clear_from.1 A.clear_from.2 ["bands", "low", "high"] (toSp K 3 (sp_clear_from C)) :=
  Fun.pok T.clear_from.f sc_clear_from rfl (sh_clear_from C) fun cdv A' outer s H E hr hG =>
    (dss_cons (ds_par4L 3 4 5 6 rfl sc_clear_from.nd (de_call (ok_constants_of T) rfl (fun _ _ _ _ h => ar1_len h) (hr.mono (by decide)) hG rfl T.constants_of.g T.constants_of.f.kp T.constants_of.b (takes_of rfl rfl rfl rfl) (da_cons (dv 0) da_nil)) de_non (dv 1))
      (dss_cons (ds_while (passes_of rfl) (DW.dt (dw_and (dt_isnot (do_of (dv 6)) (do_of de_non)) (dw_and1 (dt_not (dt_val (de_call (ok_is_below T) rfl (fun _ _ _ _ h => ar2_len h) (hr.mono (by decide)) hG rfl T.is_below.g T.is_below.f.kp T.is_below.b (takes_of rfl rfl rfl rfl) (da_cons (dv 2) (da_cons (dv 6) da_nil)))))))) (dss_cons (ds_set 7 sc_clear_from.nd (de_call (ok_next_change T) rfl (fun _ _ _ _ h => ar2_len h) (hr.mono (by decide)) hG rfl T.next_change.g T.next_change.f.kp T.next_change.b (takes_of rfl rfl rfl rfl) (da_cons (dv 3) (da_cons (dv 6) da_nil))))
      (dss_cons (ds_for (passes_of rfl) rfl (di_any (de_l (dl_lst (da_cons (de_tup (da_cons (dv 6) (da_cons de_bl da_nil))) (da_cons (de_tup (da_cons (de_call (ok_between T) rfl (fun _ _ _ _ h => ar2_len h) (hr.mono (by decide)) hG rfl T.between.g T.between.f.kp T.between.b (takes_of rfl rfl rfl rfl) (da_cons (dv 6) (da_cons (dv 7) da_nil))) (da_cons de_bl da_nil))) da_nil))))) (dg_tup rfl (dgs_cons (dg_nm 8 sc_clear_from.nd) (dgs_cons (dg_nm 9 sc_clear_from.nd) dgs_nil))) (dss_cons (ds_set 10 sc_clear_from.nd (de_is (do_of (de_call (ok_clash_of T) rfl (fun _ _ _ _ h => ar2_len h) (hr.mono (by decide)) hG rfl T.clash_of.g T.clash_of.f.kp T.clash_of.b (takes_of rfl rfl rfl rfl) (da_cons (dv 0) (da_cons (dv 8) da_nil)))) (do_of de_non)))
      (dss_cons (ds_if (DW.dt (dw_and (dt_val (dv 10)) (dw_and (dt_is (do_of (dv 5)) (do_of de_non)) (dw_and1 (DW.dt (dw_or (dt_val (dv 9)) (dw_or1 (dt_ne hr.units (do_of (dv 6)) (do_of (dv 2)))))))))) (dss_one (ds_set 5 sc_clear_from.nd (de_tup (da_cons (dv 6) (da_cons (dv 9) da_nil))))) dss_nil)
      (dss_one (ds_if (DW.dt (dw_and (dt_not (dt_val (dv 10))) (dw_and (dt_isnot (do_of (dv 5)) (do_of de_non)) (dw_and1 (DW.dt (dw_or (dt_val (dv 9)) (dw_or1 (dt_ne hr.units (do_of (dv 6)) (do_of (dv 2)))))))))) (dss_cons (ds_app 4 (de_add (do_of (dv 5)) (do_of (de_tup (da_cons (dv 6) (da_cons (de_not (dv 9)) da_nil))))))
      (dss_one (ds_set 5 sc_clear_from.nd de_non))) dss_nil)))))
      (dss_one (ds_set 6 sc_clear_from.nd (dv 7))))))
      (dss_one (ds_frz 4 (ds_ret (de_ife (dt_is (do_of (dv 5)) (do_of de_non)) (dv 4) (de_add (dn 4) (do_of (de_l (dl_lst (da_cons (de_add (do_of (dv 5)) (do_of (de_tup (da_cons (dv 2) (da_cons de_bl da_nil))))) da_nil)))))))))))

theorem ok_least_clear (T : Txt K mg C A) : FnG P w K mg base 6 A.least_clear.1 A.least_clear.2 ["bands", "wish"] (toSp K 2 (sp_least_clear C)) :=
  Fun.pok T.least_clear.f sc_least_clear rfl (sh_least_clear C) fun cdv A' outer s H E hr hG =>
    (dss_cons (ds_expr (de_call (ok_need_bands T) rfl (fun _ _ _ _ h => ar1_len h) (hr.mono (by decide)) hG rfl T.need_bands.g T.need_bands.f.kp T.need_bands.b (takes_of rfl rfl rfl rfl) (da_cons (dv 0) da_nil)))
      (dss_cons (ds_expr (de_call (ok_need_rate T) rfl (fun _ _ _ _ h => ar1_len h) (hr.mono (by decide)) hG rfl T.need_rate.g T.need_rate.f.kp T.need_rate.b (takes_of rfl rfl rfl rfl) (da_cons (dv 1) da_nil)))
      (dss_cons (ds_par 2 3 rfl sc_least_clear.nd (da_cons (de_call (ok_constants_of T) rfl (fun _ _ _ _ h => ar1_len h) (hr.mono (by decide)) hG rfl T.constants_of.g T.constants_of.f.kp T.constants_of.b (takes_of rfl rfl rfl rfl) (da_cons (dv 0) da_nil)) (da_cons (de_call (ok_greater T) rfl (fun _ _ _ _ h => ar2_len h) (hr.mono (by decide)) hG rfl T.greater.g T.greater.f.kp T.greater.b (takes_of rfl rfl rfl rfl) (da_cons (dv 1) (da_cons (de_call (ok_widest T) rfl (fun _ _ _ _ h => ar1_len h) (hr.mono (by decide)) hG rfl T.widest.g T.widest.f.kp T.widest.b (takes_of rfl rfl rfl rfl) (da_cons (dv 0) da_nil)) da_nil))) da_nil)))
      (dss_cons (ds_while (passes_of rfl) (dt_isnot (do_of (de_call (ok_clash_of T) rfl (fun _ _ _ _ h => ar2_len h) (hr.mono (by decide)) hG rfl T.clash_of.g T.clash_of.f.kp T.clash_of.b (takes_of rfl rfl rfl rfl) (da_cons (dv 0) (da_cons (dv 3) da_nil)))) (do_of de_non)) (dss_cons (ds_set 4 sc_least_clear.nd (de_call (ok_next_change T) rfl (fun _ _ _ _ h => ar2_len h) (hr.mono (by decide)) hG rfl T.next_change.g T.next_change.f.kp T.next_change.b (takes_of rfl rfl rfl rfl) (da_cons (dv 2) (da_cons (dv 3) da_nil))))
      (dss_cons (ds_if (dt_is (do_of (de_call (ok_clash_of T) rfl (fun _ _ _ _ h => ar2_len h) (hr.mono (by decide)) hG rfl T.clash_of.g T.clash_of.f.kp T.clash_of.b (takes_of rfl rfl rfl rfl) (da_cons (dv 0) (da_cons (de_call (ok_between T) rfl (fun _ _ _ _ h => ar2_len h) (hr.mono (by decide)) hG rfl T.between.g T.between.f.kp T.between.b (takes_of rfl rfl rfl rfl) (da_cons (dv 3) (da_cons (dv 4) da_nil))) da_nil)))) (do_of de_non)) (dss_one (ds_ret (de_tup (da_cons (dv 3) (da_cons de_bl da_nil))))) dss_nil)
      (dss_one (ds_set 3 sc_least_clear.nd (dv 4))))))
      (dss_one (ds_ret (de_tup (da_cons (dv 3) (da_cons de_bl da_nil)))))))))

theorem ok_clear_halves (T : Txt K mg C A) : FnG P w K mg base 7 A.clear_halves.1 A.clear_halves.2 ["bands", "low", "high"] (toSp K 3 (sp_clear_halves C)) :=
  Fun.pok T.clear_halves.f sc_clear_halves rfl (sh_clear_halves C) fun cdv A' outer s H E hr hG =>
    (dss_cons (ds_expr (de_call (ok_need_bands T) rfl (fun _ _ _ _ h => ar1_len h) (hr.mono (by decide)) hG rfl T.need_bands.g T.need_bands.f.kp T.need_bands.b (takes_of rfl rfl rfl rfl) (da_cons (dv 0) da_nil)))
      (dss_cons (ds_if (DW.dt (dw_or (dt_not (dt_val (de_call (ok_is_rate T) rfl (fun _ _ _ _ h => ar1_len h) (hr.mono (by decide)) hG rfl T.is_rate.g T.is_rate.f.kp T.is_rate.b (takes_of rfl rfl rfl rfl) (da_cons (dv 1) da_nil)))) (dw_or (dt_not (dt_val (de_call (ok_is_speed T) rfl (fun _ _ _ _ h => ar1_len h) (hr.mono (by decide)) hG rfl T.is_speed.g T.is_speed.f.kp T.is_speed.b (takes_of rfl rfl rfl rfl) (da_cons (dv 2) da_nil)))) (dw_or1 (dt_val (de_call (ok_is_below T) rfl (fun _ _ _ _ h => ar2_len h) (hr.mono (by decide)) hG rfl T.is_below.g T.is_below.f.kp T.is_below.b (takes_of rfl rfl rfl rfl) (da_cons (dv 2) (da_cons (dv 1) da_nil)))))))) (dss_one (ds_raise rfl (takes_of rfl rfl rfl rfl) T.x_BadStretch rfl)) dss_nil)
      (dss_one (ds_ret (de_call (ok_clear_from T) rfl (fun _ _ _ _ h => ar3_len h) (hr.mono (by decide)) hG rfl T.clear_from.g T.clear_from.f.kp T.clear_from.b (takes_of rfl rfl rfl rfl) (da_cons (dv 0) (da_cons (de_call (ok_greater T) rfl (fun _ _ _ _ h => ar2_len h) (hr.mono (by decide)) hG rfl T.greater.g T.greater.f.kp T.greater.b (takes_of rfl rfl rfl rfl) (da_cons (dv 1) (da_cons (de_call (ok_widest T) rfl (fun _ _ _ _ h => ar1_len h) (hr.mono (by decide)) hG rfl T.widest.g T.widest.f.kp T.widest.b (takes_of rfl rfl rfl rfl) (da_cons (dv 0) da_nil)) da_nil))) (da_cons (dv 2) da_nil))))))))

theorem ok__law_single_right (T : Txt K mg C A) : FnG P w K mg base 8 A._law_single_right.1 A._law_single_right.2 ["_law_draw"] (toSp K 1 (sp__law_single_right C)) :=
  Fun.pok T._law_single_right.f sc__law_single_right rfl (sh__law_single_right C) fun cdv A' outer s H E hr hG =>
    (dss_cons (ds_set 1 sc__law_single_right.nd (de_call (ok__law_take T) rfl (fun _ _ _ _ h => ar2_len h) (hr.mono (by decide)) hG rfl T._law_take.g T._law_take.f.kp T._law_take.b (takes_of rfl rfl rfl rfl) (da_cons (dv 0) (da_cons (de_call (ok__law_pick T) rfl (fun _ _ _ _ h => ar2_len h) (hr.mono (by decide)) hG rfl T._law_pick.g T._law_pick.f.kp T._law_pick.b (takes_of rfl rfl rfl rfl) (da_cons (dv 0) (da_cons (de_l (dl_lst (da_cons de_int (da_cons de_int (da_cons de_int da_nil))))) da_nil))) da_nil))))
      (dss_cons (ds_set 2 sc__law_single_right.nd (de_min2 rfl rfl T.z_min (do_of de_int) (do_of (de_add (do_of (de_add (do_of (dv 1)) (do_of de_int))) (do_of (de_call (ok__law_take T) rfl (fun _ _ _ _ h => ar2_len h) (hr.mono (by decide)) hG rfl T._law_take.g T._law_take.f.kp T._law_take.b (takes_of rfl rfl rfl rfl) (da_cons (dv 0) (da_cons (de_call (ok__law_pick T) rfl (fun _ _ _ _ h => ar2_len h) (hr.mono (by decide)) hG rfl T._law_pick.g T._law_pick.f.kp T._law_pick.b (takes_of rfl rfl rfl rfl) (da_cons (dv 0) (da_cons (de_l (dl_lst (da_cons de_int (da_cons de_int (da_cons de_int da_nil))))) da_nil))) da_nil))))))))
      (dss_cons (ds_par 3 4 rfl sc__law_single_right.nd (da_cons (de_call (ok__law_rate T) rfl (fun _ _ _ _ h => ar1_len h) (hr.mono (by decide)) hG rfl T._law_rate.g T._law_rate.f.kp T._law_rate.b (takes_of rfl rfl rfl rfl) (da_cons (dv 0) da_nil)) (da_cons (de_tup (da_cons (de_add (do_of (de_add (do_of (dv 2)) (do_of de_int))) (do_of (de_call (ok__law_take T) rfl (fun _ _ _ _ h => ar2_len h) (hr.mono (by decide)) hG rfl T._law_take.g T._law_take.f.kp T._law_take.b (takes_of rfl rfl rfl rfl) (da_cons (dv 0) (da_cons de_int da_nil))))) (da_cons de_int da_nil))) da_nil)))
      (dss_cons (ds_if (dt_val (de_call (ok__law_less T) rfl (fun _ _ _ _ h => ar2_len h) (hr.mono (by decide)) hG rfl T._law_less.g T._law_less.f.kp T._law_less.b (takes_of rfl rfl rfl rfl) (da_cons (dv 4) (da_cons (dv 3) da_nil)))) (dss_one (ds_set 3 sc__law_single_right.nd (de_tup (da_cons de_int (da_cons de_int da_nil))))) dss_nil)
      (dss_cons (ds_set 5 sc__law_single_right.nd (de_call (ok__law_alone T) rfl (fun _ _ _ _ h => ar4_len h) (hr.mono (by decide)) hG rfl T._law_alone.g T._law_alone.f.kp T._law_alone.b (takes_of rfl rfl rfl rfl) (da_cons (dv 1) (da_cons (dv 2) (da_cons (dv 3) (da_cons (dv 4) da_nil))))))
      (dss_cons (ds_if (dt_neS (do_of (de_repr hG hr.units rfl T.z_repr (do_of (de_call (ok_clear_halves T) rfl (fun _ _ _ _ h => ar3_len h) (hr.mono (by decide)) hG rfl T.clear_halves.g T.clear_halves.f.kp T.clear_halves.b (takes_of rfl rfl rfl rfl) (da_cons (de_l (dl_lst (da_cons (de_tup (da_cons (dv 1) (da_cons (dv 2) da_nil))) da_nil))) (da_cons (dv 3) (da_cons (dv 4) da_nil))))))) (do_of (de_repr hG hr.units rfl T.z_repr (do_of (dv 5))))) (dss_one (ds_ret de_bl)) dss_nil)
      (dss_one (ds_ret (de_or (de_eq hr.units (do_of (dv 5)) (do_of (de_l (dl_lst da_nil)))) (de_bone (de_eq hr.units (do_of (de_call (ok_least_clear T) rfl (fun _ _ _ _ h => ar2_len h) (hr.mono (by decide)) hG rfl T.least_clear.g T.least_clear.f.kp T.least_clear.b (takes_of rfl rfl rfl rfl) (da_cons (de_l (dl_lst (da_cons (de_tup (da_cons (dv 1) (da_cons (dv 2) da_nil))) da_nil))) (da_cons (dv 3) da_nil)))) (do_of (de_tup (da_cons (de_ix (do_of (de_ix (do_of (dv 5)) (do_of de_int))) (do_of de_int)) (da_cons de_bl da_nil)))))))))))))))

theorem ok_law (T : Txt K mg C A) : FnG P w K mg base 9 A.law.1 A.law.2 ["_law_script"] (toSp K 1 sp_law) :=
  Fun.pok T.law.f sc_law rfl (sh_law C) fun cdv A' outer s H E hr hG =>
    (dss_cons (ds_set 1 sc_law.nd (de_call (ok__law_begin T) rfl (fun _ _ _ _ h => ar1_len h) (hr.mono (by decide)) hG rfl T._law_begin.g T._law_begin.f.kp T._law_begin.b (takes_of rfl rfl rfl rfl) (da_cons (dv 0) da_nil)))
      (dss_cons (ds_for (passes_of rfl) rfl (di_r1 rfl T.z_range (de_add (do_of de_int) (do_of (de_min2 rfl rfl T.z_min (do_of (de_len rfl T.z_len (do_of (dv 0)))) (do_of de_int))))) (dg_nm 2 sc_law.nd) (dss_cons (ds_if (dt_not (dt_val (de_call (ok__law_single_right T) rfl (fun _ _ _ _ h => ar1_len h) (hr.mono (by decide)) hG rfl T._law_single_right.g T._law_single_right.f.kp T._law_single_right.b (takes_of rfl rfl rfl rfl) (da_cons (dv 1) da_nil)))) (dss_one (ds_ret de_bl)) dss_nil)
      (dss_cons (ds_asg (de_tup (da_cons (de_call (ok__law_bands T) rfl (fun _ _ _ _ h => ar1_len h) (hr.mono (by decide)) hG rfl T._law_bands.g T._law_bands.f.kp T._law_bands.b (takes_of rfl rfl rfl rfl) (da_cons (dv 1) da_nil)) (da_cons (de_add (do_of de_int) (do_of (de_call (ok__law_take T) rfl (fun _ _ _ _ h => ar2_len h) (hr.mono (by decide)) hG rfl T._law_take.g T._law_take.f.kp T._law_take.b (takes_of rfl rfl rfl rfl) (da_cons (dv 1) (da_cons de_int da_nil))))) da_nil))) (dg_tup rfl (dgs_cons (dg_nm 3 sc_law.nd) (dgs_cons (dg_nm 4 sc_law.nd) dgs_nil))))
      (dss_cons (ds_if (dt_le (do_of (de_mul (do_of (de_ix (do_of (de_ix (do_of (dv 3)) (do_of (de_neg (do_of de_int))))) (do_of de_int))) (do_of (dv 4)))) (do_of de_int)) (dss_cons (ds_setC 5 rfl sc_law.nd (sw_true rfl rfl rfl (by decide +kernel)) (own := [("_law_low", 8), ("_law_high", 9)]) (di_any (dv 3)) (blkOk_by rfl) (fun _ _ _ _ _ => (dg_tup rfl (dgs_cons (dg_nm 8 sc_law.nd) (dgs_cons (dg_nm 9 sc_law.nd) dgs_nil)))) (fun _ _ _ _ _ => dts_nil) (fun _ _ _ _ _ => (de_tup (da_cons (de_mul (do_of (dv 8)) (do_of (dv 4))) (da_cons (de_mul (do_of (dv 9)) (do_of (dv 4))) da_nil)))))
      (dss_cons (ds_par 6 7 rfl sc_law.nd (da_cons (de_call (ok__law_near_rate T) rfl (fun _ _ _ _ h => ar2_len h) (hr.mono (by decide)) hG rfl T._law_near_rate.g T._law_near_rate.f.kp T._law_near_rate.b (takes_of rfl rfl rfl rfl) (da_cons (dv 1) (da_cons (dv 3) da_nil))) (da_cons (de_call (ok__law_near_rate T) rfl (fun _ _ _ _ h => ar2_len h) (hr.mono (by decide)) hG rfl T._law_near_rate.g T._law_near_rate.f.kp T._law_near_rate.b (takes_of rfl rfl rfl rfl) (da_cons (dv 1) (da_cons (dv 3) da_nil))) da_nil)))
      (dss_cons (ds_asg (de_ife (dt_val (de_call (ok__law_less T) rfl (fun _ _ _ _ h => ar2_len h) (hr.mono (by decide)) hG rfl T._law_less.g T._law_less.f.kp T._law_less.b (takes_of rfl rfl rfl rfl) (da_cons (dv 7) (da_cons (dv 6) da_nil)))) (de_tup (da_cons (dv 7) (da_cons (dv 6) da_nil))) (de_tup (da_cons (dv 6) (da_cons (dv 7) da_nil)))) (dg_tup rfl (dgs_cons (dg_nm 8 sc_law.nd) (dgs_cons (dg_nm 9 sc_law.nd) dgs_nil))))
      (dss_cons (ds_setO 10 sc_law.nd (dl_lst da_nil))
      (dss_cons (ds_for (passes_of rfl) rfl (di_any (de_call (ok_clear_halves T) rfl (fun _ _ _ _ h => ar3_len h) (hr.mono (by decide)) hG rfl T.clear_halves.g T.clear_halves.f.kp T.clear_halves.b (takes_of rfl rfl rfl rfl) (da_cons (dv 3) (da_cons (dv 8) (da_cons (dv 9) da_nil))))) (dg_tup rfl (dgs_cons (dg_nm 11 sc_law.nd) (dgs_cons (dg_nm 12 sc_law.nd) (dgs_cons (dg_nm 13 sc_law.nd) (dgs_cons (dg_nm 14 sc_law.nd) dgs_nil))))) (dss_one (ds_app 10 (de_tup (da_cons (de_call (ok__law_times T) rfl (fun _ _ _ _ h => ar2_len h) (hr.mono (by decide)) hG rfl T._law_times.g T._law_times.f.kp T._law_times.b (takes_of rfl rfl rfl rfl) (da_cons (dv 11) (da_cons (dv 4) da_nil))) (da_cons (dv 12) (da_cons (de_call (ok__law_times T) rfl (fun _ _ _ _ h => ar2_len h) (hr.mono (by decide)) hG rfl T._law_times.g T._law_times.f.kp T._law_times.b (takes_of rfl rfl rfl rfl) (da_cons (dv 13) (da_cons (dv 4) da_nil))) (da_cons (dv 14) da_nil))))))))
      (dss_one (ds_if (dt_ne hr.units (do_of (de_call (ok_clear_halves T) rfl (fun _ _ _ _ h => ar3_len h) (hr.mono (by decide)) hG rfl T.clear_halves.g T.clear_halves.f.kp T.clear_halves.b (takes_of rfl rfl rfl rfl) (da_cons (dv 5) (da_cons (de_call (ok__law_times T) rfl (fun _ _ _ _ h => ar2_len h) (hr.mono (by decide)) hG rfl T._law_times.g T._law_times.f.kp T._law_times.b (takes_of rfl rfl rfl rfl) (da_cons (dv 8) (da_cons (dv 4) da_nil))) (da_cons (de_call (ok__law_times T) rfl (fun _ _ _ _ h => ar2_len h) (hr.mono (by decide)) hG rfl T._law_times.g T._law_times.f.kp T._law_times.b (takes_of rfl rfl rfl rfl) (da_cons (dv 9) (da_cons (dv 4) da_nil))) da_nil))))) (dn 10)) (dss_one (ds_ret de_bl)) dss_nil))))))) dss_nil)
      (dss_cons (ds_set 15 sc_law.nd (de_call (ok__law_near_rate T) rfl (fun _ _ _ _ h => ar2_len h) (hr.mono (by decide)) hG rfl T._law_near_rate.g T._law_near_rate.f.kp T._law_near_rate.b (takes_of rfl rfl rfl rfl) (da_cons (dv 1) (da_cons (dv 3) da_nil))))
      (dss_cons (ds_set 16 sc_law.nd (de_l (dl_lst (da_cons (de_l (dl_lst (da_cons (de_ix (do_of (dv 3)) (do_of de_int)) da_nil))) da_nil))))
      (dss_cons (ds_for (passes_of rfl) rfl (di_enumA rfl T.z_enumerate (dv 3)) (dg_tup rfl (dgs_cons (dg_nm 17 sc_law.nd) (dgs_cons (dg_nm 18 sc_law.nd) dgs_nil))) (dss_one (ds_set 16 sc_law.nd (de_add (do_of (dv 16)) (do_of (de_l (dl_comp rfl sc_law.nd (own := [("_law_before", 20)]) (di_any (de_sl (do_of (dv 3)) dp_no (dp_pt (dv 17)))) (blkOk_by rfl) (fun _ _ _ _ _ => (dg_nm 20 sc_law.nd)) (fun _ _ _ _ _ => dts_nil) (fun _ _ _ _ _ => (de_l (dl_lst (da_cons (dv 20) (da_cons (dv 18) da_nil))))))))))))
      (dss_cons (ds_set 19 sc_law.nd (de_eq hr.units (do_of (de_l (dl_comp rfl sc_law.nd (own := [("_law_pair", 21)]) (di_any (dv 16)) (blkOk_by rfl) (fun _ _ _ _ _ => (dg_nm 21 sc_law.nd)) (fun _ _ _ _ _ => (dts_one (dt_isnot (do_of (de_call (ok_clash_at T) rfl (fun _ _ _ _ h => ar2_len h) (hr.mono (by decide)) hG rfl T.clash_at.g T.clash_at.f.kp T.clash_at.b takes0 (da_cons (dv 21) (da_cons (dv 15) da_nil)))) (do_of de_non)))) (fun _ _ _ _ _ => (dv 21))))) (do_of (de_l (dl_lst da_nil)))))
      (dss_one (ds_if (DW.dt (dw_or (dt_ne hr.units (do_of (dv 19)) (do_of (de_is (do_of (de_call (ok_clash_at T) rfl (fun _ _ _ _ h => ar2_len h) (hr.mono (by decide)) hG rfl T.clash_at.g T.clash_at.f.kp T.clash_at.b (takes_of rfl rfl rfl rfl) (da_cons (dv 3) (da_cons (dv 15) da_nil)))) (do_of de_non)))) (dw_or1 (DW.dt (dw_and (dt_val (dv 19)) (dw_and1 (dt_isnot (do_of (de_call (ok_clash_at T) rfl (fun _ _ _ _ h => ar2_len h) (hr.mono (by decide)) hG rfl T.clash_at.g T.clash_at.f.kp T.clash_at.b (takes_of rfl rfl rfl rfl) (da_cons (de_orT (de_sl (do_of (dv 3)) (dp_pt de_int) dp_no) (de_bone (dv 3))) (da_cons (dv 15) da_nil)))) (do_of de_non)))))))) (dss_one (ds_ret de_bl)) dss_nil))))))))))
      (dss_one (ds_ret de_bl))))

end
set_option maxHeartbeats 0 in
theorem all_mk {P : Program} {w : World} {K : PySem.W.Frag} {h : Heap} {mg : Str → Option Value} {fa : Addr} {f0 f1 f2 f3 f4 f5 f6 f7 f8 f9 f10 f11 f12 f13 f14 f15 f16 f17 f18 f19 f20 f21 f22 f23 f24 f25 f26 f27 f28 f29 f30 f31 f32 f33 f34 f35 e_BadSpeed e_BadStretch : Addr} (X : K.In h) (G : h.Ns mainGlobals mg) (hfa : mg "law" = some (.ref fa))
    {od0 an0 od1 an1 od2 an2 od3 an3 od4 an4 od5 an5 od6 an6 od7 an7 od8 an8 od9 an9 od10 an10 od11 an11 od12 an12 od13 an13 od14 an14 od15 an15 od16 an16 od17 an17 od18 an18 od19 an19 od20 an20 od21 an21 od22 an22 od23 an23 od24 an24 od25 an25 od26 an26 od27 an27 od28 an28 od29 an29 od30 an30 od31 an31 od32 an32 od33 an33 od34 an34 od35 an35 : Option Addr} {sl0 sl1 sl2 sl3 sl4 sl5 sl6 sl7 sl8 sl9 sl10 sl11 sl12 sl13 sl14 sl15 sl16 sl17 sl18 sl19 sl20 sl21 sl22 sl23 sl24 sl25 sl26 sl27 sl28 sl29 sl30 sl31 sl32 sl33 sl34 sl35 : Array (Option Value)} {oc0 kV0 dc0 pm0 cd0 ct0 oc1 kV1 dc1 pm1 cd1 ct1 oc2 kV2 dc2 pm2 cd2 ct2 oc3 kV3 dc3 pm3 cd3 ct3 oc4 kV4 dc4 pm4 cd4 ct4 oc5 kV5 dc5 pm5 cd5 ct5 oc6 kV6 dc6 pm6 cd6 ct6 oc7 kV7 dc7 pm7 cd7 ct7 oc8 kV8 dc8 pm8 cd8 ct8 oc9 kV9 dc9 pm9 cd9 ct9 oc10 kV10 dc10 pm10 cd10 ct10 oc11 kV11 dc11 pm11 cd11 ct11 oc12 kV12 dc12 pm12 cd12 ct12 oc13 kV13 dc13 pm13 cd13 ct13 oc14 kV14 dc14 pm14 cd14 ct14 oc15 kV15 dc15 pm15 cd15 ct15 oc16 kV16 dc16 pm16 cd16 ct16 oc17 kV17 dc17 pm17 cd17 ct17 oc18 kV18 dc18 pm18 cd18 ct18 oc19 kV19 dc19 pm19 cd19 ct19 oc20 kV20 dc20 pm20 cd20 ct20 oc21 kV21 dc21 pm21 cd21 ct21 oc22 kV22 dc22 pm22 cd22 ct22 oc23 kV23 dc23 pm23 cd23 ct23 oc24 kV24 dc24 pm24 cd24 ct24 oc25 kV25 dc25 pm25 cd25 ct25 oc26 kV26 dc26 pm26 cd26 ct26 oc27 kV27 dc27 pm27 cd27 ct27 oc28 kV28 dc28 pm28 cd28 ct28 oc29 kV29 dc29 pm29 cd29 ct29 oc30 kV30 dc30 pm30 cd30 ct30 oc31 kV31 dc31 pm31 cd31 ct31 oc32 kV32 dc32 pm32 cd32 ct32 oc33 kV33 dc33 pm33 cd33 ct33 oc34 kV34 dc34 pm34 cd34 ct34 oc35 kV35 dc35 pm35 cd35 ct35 : Value}
    (gx_BadSpeed : PySem.W.nsIn K mainGlobals "BadSpeed" = some (some (.ref e_BadSpeed)))
    (xx_BadSpeed : PySem.W.excIn K e_BadSpeed [.type "ValueError", .type "Exception", .type "BaseException", .type "object"] "ValueError.__new__" = true)
    (kx_BadSpeed : PySem.W.keepIn K (.ref e_BadSpeed) = true)
    (bx_BadSpeed : PySem.W.subIn K (.ref e_BadSpeed) (.type "BaseException") = some true)
    (tx_BadSpeed : PySem.W.typeIn K (.ref e_BadSpeed) = some (.type "type"))
    (gx_BadStretch : PySem.W.nsIn K mainGlobals "BadStretch" = some (some (.ref e_BadStretch)))
    (xx_BadStretch : PySem.W.excIn K e_BadStretch [.type "ValueError", .type "Exception", .type "BaseException", .type "object"] "ValueError.__new__" = true)
    (kx_BadStretch : PySem.W.keepIn K (.ref e_BadStretch) = true)
    (bx_BadStretch : PySem.W.subIn K (.ref e_BadStretch) (.type "BaseException") = some true)
    (tx_BadStretch : PySem.W.typeIn K (.ref e_BadStretch) = some (.type "type"))
    (z_abs : PySem.W.nsIn K mainGlobals "abs" = some none)
    (z_all : PySem.W.nsIn K mainGlobals "all" = some none)
    (z_bool : PySem.W.nsIn K mainGlobals "bool" = some none)
    (z_divmod : PySem.W.nsIn K mainGlobals "divmod" = some none)
    (z_enumerate : PySem.W.nsIn K mainGlobals "enumerate" = some none)
    (z_int : PySem.W.nsIn K mainGlobals "int" = some none)
    (z_isinstance : PySem.W.nsIn K mainGlobals "isinstance" = some none)
    (z_len : PySem.W.nsIn K mainGlobals "len" = some none)
    (z_list : PySem.W.nsIn K mainGlobals "list" = some none)
    (z_max : PySem.W.nsIn K mainGlobals "max" = some none)
    (z_min : PySem.W.nsIn K mainGlobals "min" = some none)
    (z_range : PySem.W.nsIn K mainGlobals "range" = some none)
    (z_repr : PySem.W.nsIn K mainGlobals "repr" = some none)
    (z_sorted : PySem.W.nsIn K mainGlobals "sorted" = some none)
    (z_tuple : PySem.W.nsIn K mainGlobals "tuple" = some none)
    (c_GREATEST_END : ∃ t, PySem.W.nsIn K mainGlobals "GREATEST_END" = some (some (.int 1000 t)))
    (c_MOST_BANDS : ∃ t, PySem.W.nsIn K mainGlobals "MOST_BANDS" = some (some (.int 4 t)))
    (a0 : PySem.W.nsIn K mainGlobals "is_integer" = some (some (.ref f0)))
    (l0 : K.lookup f0 = some ⟨oc0, od0, .func (PySem.W.fnOf "is_integer" "is_integer" (defArgs s_is_integer) (defBody s_is_integer) (defScope s_is_integer) .none kV0 dc0 pm0 an0 cd0 ct0), sl0⟩)
    (c0 : PySem.W.codeIn K cd0 "is_integer" = true)
    (k0 : PySem.W.keepIn K (.ref f0) = true)
    (a1 : PySem.W.nsIn K mainGlobals "divisor" = some (some (.ref f1)))
    (l1 : K.lookup f1 = some ⟨oc1, od1, .func (PySem.W.fnOf "divisor" "divisor" (defArgs s_divisor) (defBody s_divisor) (defScope s_divisor) .none kV1 dc1 pm1 an1 cd1 ct1), sl1⟩)
    (c1 : PySem.W.codeIn K cd1 "divisor" = true)
    (k1 : PySem.W.keepIn K (.ref f1) = true)
    (a2 : PySem.W.nsIn K mainGlobals "is_below" = some (some (.ref f2)))
    (l2 : K.lookup f2 = some ⟨oc2, od2, .func (PySem.W.fnOf "is_below" "is_below" (defArgs s_is_below) (defBody s_is_below) (defScope s_is_below) .none kV2 dc2 pm2 an2 cd2 ct2), sl2⟩)
    (c2 : PySem.W.codeIn K cd2 "is_below" = true)
    (k2 : PySem.W.keepIn K (.ref f2) = true)
    (a3 : PySem.W.nsIn K mainGlobals "fold_in" = some (some (.ref f3)))
    (l3 : K.lookup f3 = some ⟨oc3, od3, .func (PySem.W.fnOf "fold_in" "fold_in" (defArgs s_fold_in) (defBody s_fold_in) (defScope s_fold_in) .none kV3 dc3 pm3 an3 cd3 ct3), sl3⟩)
    (c3 : PySem.W.codeIn K cd3 "fold_in" = true)
    (k3 : PySem.W.keepIn K (.ref f3) = true)
    (a4 : PySem.W.nsIn K mainGlobals "constants_of" = some (some (.ref f4)))
    (l4 : K.lookup f4 = some ⟨oc4, od4, .func (PySem.W.fnOf "constants_of" "constants_of" (defArgs s_constants_of) (defBody s_constants_of) (defScope s_constants_of) .none kV4 dc4 pm4 an4 cd4 ct4), sl4⟩)
    (c4 : PySem.W.codeIn K cd4 "constants_of" = true)
    (k4 : PySem.W.keepIn K (.ref f4) = true)
    (a5 : PySem.W.nsIn K mainGlobals "widest" = some (some (.ref f5)))
    (l5 : K.lookup f5 = some ⟨oc5, od5, .func (PySem.W.fnOf "widest" "widest" (defArgs s_widest) (defBody s_widest) (defScope s_widest) .none kV5 dc5 pm5 an5 cd5 ct5), sl5⟩)
    (c5 : PySem.W.codeIn K cd5 "widest" = true)
    (k5 : PySem.W.keepIn K (.ref f5) = true)
    (a6 : PySem.W.nsIn K mainGlobals "_law_begin" = some (some (.ref f6)))
    (l6 : K.lookup f6 = some ⟨oc6, od6, .func (PySem.W.fnOf "_law_begin" "_law_begin" (defArgs s__law_begin) (defBody s__law_begin) (defScope s__law_begin) .none kV6 dc6 pm6 an6 cd6 ct6), sl6⟩)
    (c6 : PySem.W.codeIn K cd6 "_law_begin" = true)
    (k6 : PySem.W.keepIn K (.ref f6) = true)
    (a7 : PySem.W.nsIn K mainGlobals "_law_take" = some (some (.ref f7)))
    (l7 : K.lookup f7 = some ⟨oc7, od7, .func (PySem.W.fnOf "_law_take" "_law_take" (defArgs s__law_take) (defBody s__law_take) (defScope s__law_take) .none kV7 dc7 pm7 an7 cd7 ct7), sl7⟩)
    (c7 : PySem.W.codeIn K cd7 "_law_take" = true)
    (k7 : PySem.W.keepIn K (.ref f7) = true)
    (a8 : PySem.W.nsIn K mainGlobals "_law_fraction" = some (some (.ref f8)))
    (l8 : K.lookup f8 = some ⟨oc8, od8, .func (PySem.W.fnOf "_law_fraction" "_law_fraction" (defArgs s__law_fraction) (defBody s__law_fraction) (defScope s__law_fraction) .none kV8 dc8 pm8 an8 cd8 ct8), sl8⟩)
    (c8 : PySem.W.codeIn K cd8 "_law_fraction" = true)
    (k8 : PySem.W.keepIn K (.ref f8) = true)
    (a9 : PySem.W.nsIn K mainGlobals "_law_less" = some (some (.ref f9)))
    (l9 : K.lookup f9 = some ⟨oc9, od9, .func (PySem.W.fnOf "_law_less" "_law_less" (defArgs s__law_less) (defBody s__law_less) (defScope s__law_less) .none kV9 dc9 pm9 an9 cd9 ct9), sl9⟩)
    (c9 : PySem.W.codeIn K cd9 "_law_less" = true)
    (k9 : PySem.W.keepIn K (.ref f9) = true)
    (a10 : PySem.W.nsIn K mainGlobals "is_between" = some (some (.ref f10)))
    (l10 : K.lookup f10 = some ⟨oc10, od10, .func (PySem.W.fnOf "is_between" "is_between" (defArgs s_is_between) (defBody s_is_between) (defScope s_is_between) .none kV10 dc10 pm10 an10 cd10 ct10), sl10⟩)
    (c10 : PySem.W.codeIn K cd10 "is_between" = true)
    (k10 : PySem.W.keepIn K (.ref f10) = true)
    (a11 : PySem.W.nsIn K mainGlobals "is_speed" = some (some (.ref f11)))
    (l11 : K.lookup f11 = some ⟨oc11, od11, .func (PySem.W.fnOf "is_speed" "is_speed" (defArgs s_is_speed) (defBody s_is_speed) (defScope s_is_speed) .none kV11 dc11 pm11 an11 cd11 ct11), sl11⟩)
    (c11 : PySem.W.codeIn K cd11 "is_speed" = true)
    (k11 : PySem.W.keepIn K (.ref f11) = true)
    (a12 : PySem.W.nsIn K mainGlobals "lowest" = some (some (.ref f12)))
    (l12 : K.lookup f12 = some ⟨oc12, od12, .func (PySem.W.fnOf "lowest" "lowest" (defArgs s_lowest) (defBody s_lowest) (defScope s_lowest) .none kV12 dc12 pm12 an12 cd12 ct12), sl12⟩)
    (c12 : PySem.W.codeIn K cd12 "lowest" = true)
    (k12 : PySem.W.keepIn K (.ref f12) = true)
    (a13 : PySem.W.nsIn K mainGlobals "greater" = some (some (.ref f13)))
    (l13 : K.lookup f13 = some ⟨oc13, od13, .func (PySem.W.fnOf "greater" "greater" (defArgs s_greater) (defBody s_greater) (defScope s_greater) .none kV13 dc13 pm13 an13 cd13 ct13), sl13⟩)
    (c13 : PySem.W.codeIn K cd13 "greater" = true)
    (k13 : PySem.W.keepIn K (.ref f13) = true)
    (a14 : PySem.W.nsIn K mainGlobals "_law_pick" = some (some (.ref f14)))
    (l14 : K.lookup f14 = some ⟨oc14, od14, .func (PySem.W.fnOf "_law_pick" "_law_pick" (defArgs s__law_pick) (defBody s__law_pick) (defScope s__law_pick) .none kV14 dc14 pm14 an14 cd14 ct14), sl14⟩)
    (c14 : PySem.W.codeIn K cd14 "_law_pick" = true)
    (k14 : PySem.W.keepIn K (.ref f14) = true)
    (a15 : PySem.W.nsIn K mainGlobals "_law_alone" = some (some (.ref f15)))
    (l15 : K.lookup f15 = some ⟨oc15, od15, .func (PySem.W.fnOf "_law_alone" "_law_alone" (defArgs s__law_alone) (defBody s__law_alone) (defScope s__law_alone) .none kV15 dc15 pm15 an15 cd15 ct15), sl15⟩)
    (c15 : PySem.W.codeIn K cd15 "_law_alone" = true)
    (k15 : PySem.W.keepIn K (.ref f15) = true)
    (a16 : PySem.W.nsIn K mainGlobals "_law_times" = some (some (.ref f16)))
    (l16 : K.lookup f16 = some ⟨oc16, od16, .func (PySem.W.fnOf "_law_times" "_law_times" (defArgs s__law_times) (defBody s__law_times) (defScope s__law_times) .none kV16 dc16 pm16 an16 cd16 ct16), sl16⟩)
    (c16 : PySem.W.codeIn K cd16 "_law_times" = true)
    (k16 : PySem.W.keepIn K (.ref f16) = true)
    (a17 : PySem.W.nsIn K mainGlobals "is_band" = some (some (.ref f17)))
    (l17 : K.lookup f17 = some ⟨oc17, od17, .func (PySem.W.fnOf "is_band" "is_band" (defArgs s_is_band) (defBody s_is_band) (defScope s_is_band) .none kV17 dc17 pm17 an17 cd17 ct17), sl17⟩)
    (c17 : PySem.W.codeIn K cd17 "is_band" = true)
    (k17 : PySem.W.keepIn K (.ref f17) = true)
    (a18 : PySem.W.nsIn K mainGlobals "is_rate" = some (some (.ref f18)))
    (l18 : K.lookup f18 = some ⟨oc18, od18, .func (PySem.W.fnOf "is_rate" "is_rate" (defArgs s_is_rate) (defBody s_is_rate) (defScope s_is_rate) .none kV18 dc18 pm18 an18 cd18 ct18), sl18⟩)
    (c18 : PySem.W.codeIn K cd18 "is_rate" = true)
    (k18 : PySem.W.keepIn K (.ref f18) = true)
    (a19 : PySem.W.nsIn K mainGlobals "gap_in" = some (some (.ref f19)))
    (l19 : K.lookup f19 = some ⟨oc19, od19, .func (PySem.W.fnOf "gap_in" "gap_in" (defArgs s_gap_in) (defBody s_gap_in) (defScope s_gap_in) .none kV19 dc19 pm19 an19 cd19 ct19), sl19⟩)
    (c19 : PySem.W.codeIn K cd19 "gap_in" = true)
    (k19 : PySem.W.keepIn K (.ref f19) = true)
    (a20 : PySem.W.nsIn K mainGlobals "moved" = some (some (.ref f20)))
    (l20 : K.lookup f20 = some ⟨oc20, od20, .func (PySem.W.fnOf "moved" "moved" (defArgs s_moved) (defBody s_moved) (defScope s_moved) .none kV20 dc20 pm20 an20 cd20 ct20), sl20⟩)
    (c20 : PySem.W.codeIn K cd20 "moved" = true)
    (k20 : PySem.W.keepIn K (.ref f20) = true)
    (a21 : PySem.W.nsIn K mainGlobals "next_change" = some (some (.ref f21)))
    (l21 : K.lookup f21 = some ⟨oc21, od21, .func (PySem.W.fnOf "next_change" "next_change" (defArgs s_next_change) (defBody s_next_change) (defScope s_next_change) .none kV21 dc21 pm21 an21 cd21 ct21), sl21⟩)
    (c21 : PySem.W.codeIn K cd21 "next_change" = true)
    (k21 : PySem.W.keepIn K (.ref f21) = true)
    (a22 : PySem.W.nsIn K mainGlobals "between" = some (some (.ref f22)))
    (l22 : K.lookup f22 = some ⟨oc22, od22, .func (PySem.W.fnOf "between" "between" (defArgs s_between) (defBody s_between) (defScope s_between) .none kV22 dc22 pm22 an22 cd22 ct22), sl22⟩)
    (c22 : PySem.W.codeIn K cd22 "between" = true)
    (k22 : PySem.W.keepIn K (.ref f22) = true)
    (a23 : PySem.W.nsIn K mainGlobals "_law_bands" = some (some (.ref f23)))
    (l23 : K.lookup f23 = some ⟨oc23, od23, .func (PySem.W.fnOf "_law_bands" "_law_bands" (defArgs s__law_bands) (defBody s__law_bands) (defScope s__law_bands) .none kV23 dc23 pm23 an23 cd23 ct23), sl23⟩)
    (c23 : PySem.W.codeIn K cd23 "_law_bands" = true)
    (k23 : PySem.W.keepIn K (.ref f23) = true)
    (a24 : PySem.W.nsIn K mainGlobals "_law_rate" = some (some (.ref f24)))
    (l24 : K.lookup f24 = some ⟨oc24, od24, .func (PySem.W.fnOf "_law_rate" "_law_rate" (defArgs s__law_rate) (defBody s__law_rate) (defScope s__law_rate) .none kV24 dc24 pm24 an24 cd24 ct24), sl24⟩)
    (c24 : PySem.W.codeIn K cd24 "_law_rate" = true)
    (k24 : PySem.W.keepIn K (.ref f24) = true)
    (a25 : PySem.W.nsIn K mainGlobals "need_bands" = some (some (.ref f25)))
    (l25 : K.lookup f25 = some ⟨oc25, od25, .func (PySem.W.fnOf "need_bands" "need_bands" (defArgs s_need_bands) (defBody s_need_bands) (defScope s_need_bands) .none kV25 dc25 pm25 an25 cd25 ct25), sl25⟩)
    (c25 : PySem.W.codeIn K cd25 "need_bands" = true)
    (k25 : PySem.W.keepIn K (.ref f25) = true)
    (a26 : PySem.W.nsIn K mainGlobals "need_rate" = some (some (.ref f26)))
    (l26 : K.lookup f26 = some ⟨oc26, od26, .func (PySem.W.fnOf "need_rate" "need_rate" (defArgs s_need_rate) (defBody s_need_rate) (defScope s_need_rate) .none kV26 dc26 pm26 an26 cd26 ct26), sl26⟩)
    (c26 : PySem.W.codeIn K cd26 "need_rate" = true)
    (k26 : PySem.W.keepIn K (.ref f26) = true)
    (a27 : PySem.W.nsIn K mainGlobals "alike_in" = some (some (.ref f27)))
    (l27 : K.lookup f27 = some ⟨oc27, od27, .func (PySem.W.fnOf "alike_in" "alike_in" (defArgs s_alike_in) (defBody s_alike_in) (defScope s_alike_in) .none kV27 dc27 pm27 an27 cd27 ct27), sl27⟩)
    (c27 : PySem.W.codeIn K cd27 "alike_in" = true)
    (k27 : PySem.W.keepIn K (.ref f27) = true)
    (a28 : PySem.W.nsIn K mainGlobals "_law_near_rate" = some (some (.ref f28)))
    (l28 : K.lookup f28 = some ⟨oc28, od28, .func (PySem.W.fnOf "_law_near_rate" "_law_near_rate" (defArgs s__law_near_rate) (defBody s__law_near_rate) (defScope s__law_near_rate) .none kV28 dc28 pm28 an28 cd28 ct28), sl28⟩)
    (c28 : PySem.W.codeIn K cd28 "_law_near_rate" = true)
    (k28 : PySem.W.keepIn K (.ref f28) = true)
    (a29 : PySem.W.nsIn K mainGlobals "clash_of" = some (some (.ref f29)))
    (l29 : K.lookup f29 = some ⟨oc29, od29, .func (PySem.W.fnOf "clash_of" "clash_of" (defArgs s_clash_of) (defBody s_clash_of) (defScope s_clash_of) .none kV29 dc29 pm29 an29 cd29 ct29), sl29⟩)
    (c29 : PySem.W.codeIn K cd29 "clash_of" = true)
    (k29 : PySem.W.keepIn K (.ref f29) = true)
    (a30 : PySem.W.nsIn K mainGlobals "clash_at" = some (some (.ref f30)))
    (l30 : K.lookup f30 = some ⟨oc30, od30, .func (PySem.W.fnOf "clash_at" "clash_at" (defArgs s_clash_at) (defBody s_clash_at) (defScope s_clash_at) .none kV30 dc30 pm30 an30 cd30 ct30), sl30⟩)
    (c30 : PySem.W.codeIn K cd30 "clash_at" = true)
    (k30 : PySem.W.keepIn K (.ref f30) = true)
    (a31 : PySem.W.nsIn K mainGlobals "clear_from" = some (some (.ref f31)))
    (l31 : K.lookup f31 = some ⟨oc31, od31, .func (PySem.W.fnOf "clear_from" "clear_from" (defArgs s_clear_from) (defBody s_clear_from) (defScope s_clear_from) .none kV31 dc31 pm31 an31 cd31 ct31), sl31⟩)
    (c31 : PySem.W.codeIn K cd31 "clear_from" = true)
    (k31 : PySem.W.keepIn K (.ref f31) = true)
    (a32 : PySem.W.nsIn K mainGlobals "least_clear" = some (some (.ref f32)))
    (l32 : K.lookup f32 = some ⟨oc32, od32, .func (PySem.W.fnOf "least_clear" "least_clear" (defArgs s_least_clear) (defBody s_least_clear) (defScope s_least_clear) .none kV32 dc32 pm32 an32 cd32 ct32), sl32⟩)
    (c32 : PySem.W.codeIn K cd32 "least_clear" = true)
    (k32 : PySem.W.keepIn K (.ref f32) = true)
    (a33 : PySem.W.nsIn K mainGlobals "clear_halves" = some (some (.ref f33)))
    (l33 : K.lookup f33 = some ⟨oc33, od33, .func (PySem.W.fnOf "clear_halves" "clear_halves" (defArgs s_clear_halves) (defBody s_clear_halves) (defScope s_clear_halves) .none kV33 dc33 pm33 an33 cd33 ct33), sl33⟩)
    (c33 : PySem.W.codeIn K cd33 "clear_halves" = true)
    (k33 : PySem.W.keepIn K (.ref f33) = true)
    (a34 : PySem.W.nsIn K mainGlobals "_law_single_right" = some (some (.ref f34)))
    (l34 : K.lookup f34 = some ⟨oc34, od34, .func (PySem.W.fnOf "_law_single_right" "_law_single_right" (defArgs s__law_single_right) (defBody s__law_single_right) (defScope s__law_single_right) .none kV34 dc34 pm34 an34 cd34 ct34), sl34⟩)
    (c34 : PySem.W.codeIn K cd34 "_law_single_right" = true)
    (k34 : PySem.W.keepIn K (.ref f34) = true)
    (a35 : PySem.W.nsIn K mainGlobals "law" = some (some (.ref f35)))
    (l35 : K.lookup f35 = some ⟨oc35, od35, .func (PySem.W.fnOf "law" "law" (defArgs s_law) (defBody s_law) (defScope s_law) .none kV35 dc35 pm35 an35 cd35 ct35), sl35⟩)
    (c35 : PySem.W.codeIn K cd35 "law" = true)
    (k35 : PySem.W.keepIn K (.ref f35) = true)
    : ∃ fd : FuncData, (∀ (s : Shared) (u : Value), BindsTo s fd ⟨[u], []⟩ [("_law_script", u)]) ∧ ∀ base : Heap, K.In base → base.Ns mainGlobals mg → FnG P w K mg base 9 fa fd ["_law_script"] (toSp K 1 sp_law) := by
  have e := hfa.symm.trans (PySem.W.mg_of X G a35)
  cases e
  have F0 := fun_mk (st := s_is_integer) l0 c0 k0
  have D0 : DefT K mg "is_integer" s_is_integer ["thing"] f0 _ := ⟨F0, F0.binds (ps := ["thing"]) fun _ _ _ _ _ _ us hl => match us, hl with | [_], _ => rfl, PySem.W.mg_of X G a0⟩
  have F1 := fun_mk (st := s_divisor) l1 c1 k1
  have D1 : DefT K mg "divisor" s_divisor ["one", "other"] f1 _ := ⟨F1, F1.binds (ps := ["one", "other"]) fun _ _ _ _ _ _ us hl => match us, hl with | [_, _], _ => rfl, PySem.W.mg_of X G a1⟩
  have F2 := fun_mk (st := s_is_below) l2 c2 k2
  have D2 : DefT K mg "is_below" s_is_below ["one", "other"] f2 _ := ⟨F2, F2.binds (ps := ["one", "other"]) fun _ _ _ _ _ _ us hl => match us, hl with | [_, _], _ => rfl, PySem.W.mg_of X G a2⟩
  have F3 := fun_mk (st := s_fold_in) l3 c3 k3
  have D3 : DefT K mg "fold_in" s_fold_in ["band", "rate"] f3 _ := ⟨F3, F3.binds (ps := ["band", "rate"]) fun _ _ _ _ _ _ us hl => match us, hl with | [_, _], _ => rfl, PySem.W.mg_of X G a3⟩
  have F4 := fun_mk (st := s_constants_of) l4 c4 k4
  have D4 : DefT K mg "constants_of" s_constants_of ["bands"] f4 _ := ⟨F4, F4.binds (ps := ["bands"]) fun _ _ _ _ _ _ us hl => match us, hl with | [_], _ => rfl, PySem.W.mg_of X G a4⟩
  have F5 := fun_mk (st := s_widest) l5 c5 k5
  have D5 : DefT K mg "widest" s_widest ["bands"] f5 _ := ⟨F5, F5.binds (ps := ["bands"]) fun _ _ _ _ _ _ us hl => match us, hl with | [_], _ => rfl, PySem.W.mg_of X G a5⟩
  have F6 := fun_mk (st := s__law_begin) l6 c6 k6
  have D6 : DefT K mg "_law_begin" s__law_begin ["_law_script"] f6 _ := ⟨F6, F6.binds (ps := ["_law_script"]) fun _ _ _ _ _ _ us hl => match us, hl with | [_], _ => rfl, PySem.W.mg_of X G a6⟩
  have F7 := fun_mk (st := s__law_take) l7 c7 k7
  have D7 : DefT K mg "_law_take" s__law_take ["_law_draw", "_law_size"] f7 _ := ⟨F7, F7.binds (ps := ["_law_draw", "_law_size"]) fun _ _ _ _ _ _ us hl => match us, hl with | [_, _], _ => rfl, PySem.W.mg_of X G a7⟩
  have F8 := fun_mk (st := s__law_fraction) l8 c8 k8
  have D8 : DefT K mg "_law_fraction" s__law_fraction ["_law_top", "_law_bottom"] f8 _ := ⟨F8, F8.binds (ps := ["_law_top", "_law_bottom"]) fun _ _ _ _ _ _ us hl => match us, hl with | [_, _], _ => rfl, PySem.W.mg_of X G a8⟩
  have F9 := fun_mk (st := s__law_less) l9 c9 k9
  have D9 : DefT K mg "_law_less" s__law_less ["_law_one", "_law_other"] f9 _ := ⟨F9, F9.binds (ps := ["_law_one", "_law_other"]) fun _ _ _ _ _ _ us hl => match us, hl with | [_, _], _ => rfl, PySem.W.mg_of X G a9⟩
  have F10 := fun_mk (st := s_is_between) l10 c10 k10
  have D10 : DefT K mg "is_between" s_is_between ["thing", "low", "high"] f10 _ := ⟨F10, F10.binds (ps := ["thing", "low", "high"]) fun _ _ _ _ _ _ us hl => match us, hl with | [_, _, _], _ => rfl, PySem.W.mg_of X G a10⟩
  have F11 := fun_mk (st := s_is_speed) l11 c11 k11
  have D11 : DefT K mg "is_speed" s_is_speed ["thing"] f11 _ := ⟨F11, F11.binds (ps := ["thing"]) fun _ _ _ _ _ _ us hl => match us, hl with | [_], _ => rfl, PySem.W.mg_of X G a11⟩
  have F12 := fun_mk (st := s_lowest) l12 c12 k12
  have D12 : DefT K mg "lowest" s_lowest ["top", "bottom"] f12 _ := ⟨F12, F12.binds (ps := ["top", "bottom"]) fun _ _ _ _ _ _ us hl => match us, hl with | [_, _], _ => rfl, PySem.W.mg_of X G a12⟩
  have F13 := fun_mk (st := s_greater) l13 c13 k13
  have D13 : DefT K mg "greater" s_greater ["one", "other"] f13 _ := ⟨F13, F13.binds (ps := ["one", "other"]) fun _ _ _ _ _ _ us hl => match us, hl with | [_, _], _ => rfl, PySem.W.mg_of X G a13⟩
  have F14 := fun_mk (st := s__law_pick) l14 c14 k14
  have D14 : DefT K mg "_law_pick" s__law_pick ["_law_draw", "_law_some"] f14 _ := ⟨F14, F14.binds (ps := ["_law_draw", "_law_some"]) fun _ _ _ _ _ _ us hl => match us, hl with | [_, _], _ => rfl, PySem.W.mg_of X G a14⟩
  have F15 := fun_mk (st := s__law_alone) l15 c15 k15
  have D15 : DefT K mg "_law_alone" s__law_alone ["_law_low", "_law_high", "_law_first", "_law_last"] f15 _ := ⟨F15, F15.binds (ps := ["_law_low", "_law_high", "_law_first", "_law_last"]) fun _ _ _ _ _ _ us hl => match us, hl with | [_, _, _, _], _ => rfl, PySem.W.mg_of X G a15⟩
  have F16 := fun_mk (st := s__law_times) l16 c16 k16
  have D16 : DefT K mg "_law_times" s__law_times ["_law_one", "_law_times_here"] f16 _ := ⟨F16, F16.binds (ps := ["_law_one", "_law_times_here"]) fun _ _ _ _ _ _ us hl => match us, hl with | [_, _], _ => rfl, PySem.W.mg_of X G a16⟩
  have F17 := fun_mk (st := s_is_band) l17 c17 k17
  have D17 : DefT K mg "is_band" s_is_band ["thing"] f17 _ := ⟨F17, F17.binds (ps := ["thing"]) fun _ _ _ _ _ _ us hl => match us, hl with | [_], _ => rfl, PySem.W.mg_of X G a17⟩
  have F18 := fun_mk (st := s_is_rate) l18 c18 k18
  have D18 : DefT K mg "is_rate" s_is_rate ["thing"] f18 _ := ⟨F18, F18.binds (ps := ["thing"]) fun _ _ _ _ _ _ us hl => match us, hl with | [_], _ => rfl, PySem.W.mg_of X G a18⟩
  have F19 := fun_mk (st := s_gap_in) l19 c19 k19
  have D19 : DefT K mg "gap_in" s_gap_in ["low", "high", "rate"] f19 _ := ⟨F19, F19.binds (ps := ["low", "high", "rate"]) fun _ _ _ _ _ _ us hl => match us, hl with | [_, _, _], _ => rfl, PySem.W.mg_of X G a19⟩
  have F20 := fun_mk (st := s_moved) l20 c20 k20
  have D20 : DefT K mg "moved" s_moved ["number", "gap", "turn"] f20 _ := ⟨F20, F20.binds (ps := ["number", "gap", "turn"]) fun _ _ _ _ _ _ us hl => match us, hl with | [_, _, _], _ => rfl, PySem.W.mg_of X G a20⟩
  have F21 := fun_mk (st := s_next_change) l21 c21 k21
  have D21 : DefT K mg "next_change" s_next_change ["constants", "rate"] f21 _ := ⟨F21, F21.binds (ps := ["constants", "rate"]) fun _ _ _ _ _ _ us hl => match us, hl with | [_, _], _ => rfl, PySem.W.mg_of X G a21⟩
  have F22 := fun_mk (st := s_between) l22 c22 k22
  have D22 : DefT K mg "between" s_between ["one", "other"] f22 _ := ⟨F22, F22.binds (ps := ["one", "other"]) fun _ _ _ _ _ _ us hl => match us, hl with | [_, _], _ => rfl, PySem.W.mg_of X G a22⟩
  have F23 := fun_mk (st := s__law_bands) l23 c23 k23
  have D23 : DefT K mg "_law_bands" s__law_bands ["_law_draw"] f23 _ := ⟨F23, F23.binds (ps := ["_law_draw"]) fun _ _ _ _ _ _ us hl => match us, hl with | [_], _ => rfl, PySem.W.mg_of X G a23⟩
  have F24 := fun_mk (st := s__law_rate) l24 c24 k24
  have D24 : DefT K mg "_law_rate" s__law_rate ["_law_draw"] f24 _ := ⟨F24, F24.binds (ps := ["_law_draw"]) fun _ _ _ _ _ _ us hl => match us, hl with | [_], _ => rfl, PySem.W.mg_of X G a24⟩
  have F25 := fun_mk (st := s_need_bands) l25 c25 k25
  have D25 : DefT K mg "need_bands" s_need_bands ["bands"] f25 _ := ⟨F25, F25.binds (ps := ["bands"]) fun _ _ _ _ _ _ us hl => match us, hl with | [_], _ => rfl, PySem.W.mg_of X G a25⟩
  have F26 := fun_mk (st := s_need_rate) l26 c26 k26
  have D26 : DefT K mg "need_rate" s_need_rate ["thing"] f26 _ := ⟨F26, F26.binds (ps := ["thing"]) fun _ _ _ _ _ _ us hl => match us, hl with | [_], _ => rfl, PySem.W.mg_of X G a26⟩
  have F27 := fun_mk (st := s_alike_in) l27 c27 k27
  have D27 : DefT K mg "alike_in" s_alike_in ["one", "other", "rate"] f27 _ := ⟨F27, F27.binds (ps := ["one", "other", "rate"]) fun _ _ _ _ _ _ us hl => match us, hl with | [_, _, _], _ => rfl, PySem.W.mg_of X G a27⟩
  have F28 := fun_mk (st := s__law_near_rate) l28 c28 k28
  have D28 : DefT K mg "_law_near_rate" s__law_near_rate ["_law_draw", "_law_bands_here"] f28 _ := ⟨F28, F28.binds (ps := ["_law_draw", "_law_bands_here"]) fun _ _ _ _ _ _ us hl => match us, hl with | [_, _], _ => rfl, PySem.W.mg_of X G a28⟩
  have F29 := fun_mk (st := s_clash_of) l29 c29 k29
  have D29 : DefT K mg "clash_of" s_clash_of ["bands", "rate"] f29 _ := ⟨F29, F29.binds (ps := ["bands", "rate"]) fun _ _ _ _ _ _ us hl => match us, hl with | [_, _], _ => rfl, PySem.W.mg_of X G a29⟩
  have F30 := fun_mk (st := s_clash_at) l30 c30 k30
  have D30 : DefT K mg "clash_at" s_clash_at ["bands", "half"] f30 _ := ⟨F30, F30.binds (ps := ["bands", "half"]) fun _ _ _ _ _ _ us hl => match us, hl with | [_, _], _ => rfl, PySem.W.mg_of X G a30⟩
  have F31 := fun_mk (st := s_clear_from) l31 c31 k31
  have D31 : DefT K mg "clear_from" s_clear_from ["bands", "low", "high"] f31 _ := ⟨F31, F31.binds (ps := ["bands", "low", "high"]) fun _ _ _ _ _ _ us hl => match us, hl with | [_, _, _], _ => rfl, PySem.W.mg_of X G a31⟩
  have F32 := fun_mk (st := s_least_clear) l32 c32 k32
  have D32 : DefT K mg "least_clear" s_least_clear ["bands", "wish"] f32 _ := ⟨F32, F32.binds (ps := ["bands", "wish"]) fun _ _ _ _ _ _ us hl => match us, hl with | [_, _], _ => rfl, PySem.W.mg_of X G a32⟩
  have F33 := fun_mk (st := s_clear_halves) l33 c33 k33
  have D33 : DefT K mg "clear_halves" s_clear_halves ["bands", "low", "high"] f33 _ := ⟨F33, F33.binds (ps := ["bands", "low", "high"]) fun _ _ _ _ _ _ us hl => match us, hl with | [_, _, _], _ => rfl, PySem.W.mg_of X G a33⟩
  have F34 := fun_mk (st := s__law_single_right) l34 c34 k34
  have D34 : DefT K mg "_law_single_right" s__law_single_right ["_law_draw"] f34 _ := ⟨F34, F34.binds (ps := ["_law_draw"]) fun _ _ _ _ _ _ us hl => match us, hl with | [_], _ => rfl, PySem.W.mg_of X G a34⟩
  have F35 := fun_mk (st := s_law) l35 c35 k35
  have D35 : DefT K mg "law" s_law ["_law_script"] fa _ := ⟨F35, F35.binds (ps := ["_law_script"]) fun _ _ _ _ _ _ us hl => match us, hl with | [_], _ => rfl, PySem.W.mg_of X G a35⟩
  have T : Txt K mg ⟨e_BadSpeed, 0, 0, e_BadStretch, 0⟩ ⟨(f0, (PySem.W.fnOf "is_integer" "is_integer" (defArgs s_is_integer) (defBody s_is_integer) (defScope s_is_integer) .none kV0 dc0 pm0 an0 cd0 ct0)), (f1, (PySem.W.fnOf "divisor" "divisor" (defArgs s_divisor) (defBody s_divisor) (defScope s_divisor) .none kV1 dc1 pm1 an1 cd1 ct1)), (f2, (PySem.W.fnOf "is_below" "is_below" (defArgs s_is_below) (defBody s_is_below) (defScope s_is_below) .none kV2 dc2 pm2 an2 cd2 ct2)), (f3, (PySem.W.fnOf "fold_in" "fold_in" (defArgs s_fold_in) (defBody s_fold_in) (defScope s_fold_in) .none kV3 dc3 pm3 an3 cd3 ct3)), (f4, (PySem.W.fnOf "constants_of" "constants_of" (defArgs s_constants_of) (defBody s_constants_of) (defScope s_constants_of) .none kV4 dc4 pm4 an4 cd4 ct4)), (f5, (PySem.W.fnOf "widest" "widest" (defArgs s_widest) (defBody s_widest) (defScope s_widest) .none kV5 dc5 pm5 an5 cd5 ct5)), (f6, (PySem.W.fnOf "_law_begin" "_law_begin" (defArgs s__law_begin) (defBody s__law_begin) (defScope s__law_begin) .none kV6 dc6 pm6 an6 cd6 ct6)), (f7, (PySem.W.fnOf "_law_take" "_law_take" (defArgs s__law_take) (defBody s__law_take) (defScope s__law_take) .none kV7 dc7 pm7 an7 cd7 ct7)), (f8, (PySem.W.fnOf "_law_fraction" "_law_fraction" (defArgs s__law_fraction) (defBody s__law_fraction) (defScope s__law_fraction) .none kV8 dc8 pm8 an8 cd8 ct8)), (f9, (PySem.W.fnOf "_law_less" "_law_less" (defArgs s__law_less) (defBody s__law_less) (defScope s__law_less) .none kV9 dc9 pm9 an9 cd9 ct9)), (f10, (PySem.W.fnOf "is_between" "is_between" (defArgs s_is_between) (defBody s_is_between) (defScope s_is_between) .none kV10 dc10 pm10 an10 cd10 ct10)), (f11, (PySem.W.fnOf "is_speed" "is_speed" (defArgs s_is_speed) (defBody s_is_speed) (defScope s_is_speed) .none kV11 dc11 pm11 an11 cd11 ct11)), (f12, (PySem.W.fnOf "lowest" "lowest" (defArgs s_lowest) (defBody s_lowest) (defScope s_lowest) .none kV12 dc12 pm12 an12 cd12 ct12)), (f13, (PySem.W.fnOf "greater" "greater" (defArgs s_greater) (defBody s_greater) (defScope s_greater) .none kV13 dc13 pm13 an13 cd13 ct13)), (f14, (PySem.W.fnOf "_law_pick" "_law_pick" (defArgs s__law_pick) (defBody s__law_pick) (defScope s__law_pick) .none kV14 dc14 pm14 an14 cd14 ct14)), (f15, (PySem.W.fnOf "_law_alone" "_law_alone" (defArgs s__law_alone) (defBody s__law_alone) (defScope s__law_alone) .none kV15 dc15 pm15 an15 cd15 ct15)), (f16, (PySem.W.fnOf "_law_times" "_law_times" (defArgs s__law_times) (defBody s__law_times) (defScope s__law_times) .none kV16 dc16 pm16 an16 cd16 ct16)), (f17, (PySem.W.fnOf "is_band" "is_band" (defArgs s_is_band) (defBody s_is_band) (defScope s_is_band) .none kV17 dc17 pm17 an17 cd17 ct17)), (f18, (PySem.W.fnOf "is_rate" "is_rate" (defArgs s_is_rate) (defBody s_is_rate) (defScope s_is_rate) .none kV18 dc18 pm18 an18 cd18 ct18)), (f19, (PySem.W.fnOf "gap_in" "gap_in" (defArgs s_gap_in) (defBody s_gap_in) (defScope s_gap_in) .none kV19 dc19 pm19 an19 cd19 ct19)), (f20, (PySem.W.fnOf "moved" "moved" (defArgs s_moved) (defBody s_moved) (defScope s_moved) .none kV20 dc20 pm20 an20 cd20 ct20)), (f21, (PySem.W.fnOf "next_change" "next_change" (defArgs s_next_change) (defBody s_next_change) (defScope s_next_change) .none kV21 dc21 pm21 an21 cd21 ct21)), (f22, (PySem.W.fnOf "between" "between" (defArgs s_between) (defBody s_between) (defScope s_between) .none kV22 dc22 pm22 an22 cd22 ct22)), (f23, (PySem.W.fnOf "_law_bands" "_law_bands" (defArgs s__law_bands) (defBody s__law_bands) (defScope s__law_bands) .none kV23 dc23 pm23 an23 cd23 ct23)), (f24, (PySem.W.fnOf "_law_rate" "_law_rate" (defArgs s__law_rate) (defBody s__law_rate) (defScope s__law_rate) .none kV24 dc24 pm24 an24 cd24 ct24)), (f25, (PySem.W.fnOf "need_bands" "need_bands" (defArgs s_need_bands) (defBody s_need_bands) (defScope s_need_bands) .none kV25 dc25 pm25 an25 cd25 ct25)), (f26, (PySem.W.fnOf "need_rate" "need_rate" (defArgs s_need_rate) (defBody s_need_rate) (defScope s_need_rate) .none kV26 dc26 pm26 an26 cd26 ct26)), (f27, (PySem.W.fnOf "alike_in" "alike_in" (defArgs s_alike_in) (defBody s_alike_in) (defScope s_alike_in) .none kV27 dc27 pm27 an27 cd27 ct27)), (f28, (PySem.W.fnOf "_law_near_rate" "_law_near_rate" (defArgs s__law_near_rate) (defBody s__law_near_rate) (defScope s__law_near_rate) .none kV28 dc28 pm28 an28 cd28 ct28)), (f29, (PySem.W.fnOf "clash_of" "clash_of" (defArgs s_clash_of) (defBody s_clash_of) (defScope s_clash_of) .none kV29 dc29 pm29 an29 cd29 ct29)), (f30, (PySem.W.fnOf "clash_at" "clash_at" (defArgs s_clash_at) (defBody s_clash_at) (defScope s_clash_at) .none kV30 dc30 pm30 an30 cd30 ct30)), (f31, (PySem.W.fnOf "clear_from" "clear_from" (defArgs s_clear_from) (defBody s_clear_from) (defScope s_clear_from) .none kV31 dc31 pm31 an31 cd31 ct31)), (f32, (PySem.W.fnOf "least_clear" "least_clear" (defArgs s_least_clear) (defBody s_least_clear) (defScope s_least_clear) .none kV32 dc32 pm32 an32 cd32 ct32)), (f33, (PySem.W.fnOf "clear_halves" "clear_halves" (defArgs s_clear_halves) (defBody s_clear_halves) (defScope s_clear_halves) .none kV33 dc33 pm33 an33 cd33 ct33)), (f34, (PySem.W.fnOf "_law_single_right" "_law_single_right" (defArgs s__law_single_right) (defBody s__law_single_right) (defScope s__law_single_right) .none kV34 dc34 pm34 an34 cd34 ct34)), (fa, (PySem.W.fnOf "law" "law" (defArgs s_law) (defBody s_law) (defScope s_law) .none kV35 dc35 pm35 an35 cd35 ct35))⟩ := ⟨PySem.W.mg_none_of X G z_abs, PySem.W.mg_none_of X G z_all, PySem.W.mg_none_of X G z_bool, PySem.W.mg_none_of X G z_divmod, PySem.W.mg_none_of X G z_enumerate, PySem.W.mg_none_of X G z_int, PySem.W.mg_none_of X G z_isinstance, PySem.W.mg_none_of X G z_len, PySem.W.mg_none_of X G z_list, PySem.W.mg_none_of X G z_max, PySem.W.mg_none_of X G z_min, PySem.W.mg_none_of X G z_range, PySem.W.mg_none_of X G z_repr, PySem.W.mg_none_of X G z_sorted, PySem.W.mg_none_of X G z_tuple, c_GREATEST_END.elim fun t h => ⟨t, PySem.W.mg_of X G h⟩, c_MOST_BANDS.elim fun t h => ⟨t, PySem.W.mg_of X G h⟩, ⟨PySem.W.mg_of X G gx_BadSpeed, xx_BadSpeed, kx_BadSpeed, bx_BadSpeed, tx_BadSpeed⟩, ⟨PySem.W.mg_of X G gx_BadStretch, xx_BadStretch, kx_BadStretch, bx_BadStretch, tx_BadStretch⟩, D0, D1, D2, D3, D4, D5, D6, D7, D8, D9, D10, D11, D12, D13, D14, D15, D16, D17, D18, D19, D20, D21, D22, D23, D24, D25, D26, D27, D28, D29, D30, D31, D32, D33, D34, D35⟩
  exact ⟨(PySem.W.fnOf "law" "law" (defArgs s_law) (defBody s_law) (defScope s_law) .none kV35 dc35 pm35 an35 cd35 ct35), fun s u => .of_eq rfl, fun base _ _ => ok_law T⟩
end Px
open PySem PySem.W PyProof.Rows
set_option maxHeartbeats 0 in
theorem PySem.Challenge.cw_flashfolds_k80_whole_bands_alone_and_sca_holds : PySem.Challenge.rw_flashfolds_k80_whole_bands_alone_and_sca.Holds := by
  w_on; o_law; k_head; (case hw => w_witness2)
  k_fill
  refine Px.walk_g (l := PySem.Challenge.rw_flashfolds_k80_whole_bands_alone_and_sca) (k := 9) (x := "_law_script") rfl rfl ⟨rfl, by decide, by decide⟩ (fun w h Y => PySem.W.kIn_of Y) ?G
  case G =>
    intro w mg fa h KX G hmg
    refine' Px.all_mk KX G hmg ?gx_BadSpeed ?xx_BadSpeed ?kx_BadSpeed ?bx_BadSpeed ?tx_BadSpeed ?gx_BadStretch ?xx_BadStretch ?kx_BadStretch ?bx_BadStretch ?tx_BadStretch ?z_abs ?z_all ?z_bool ?z_divmod ?z_enumerate ?z_int ?z_isinstance ?z_len ?z_list ?z_max ?z_min ?z_range ?z_repr ?z_sorted ?z_tuple ?c_GREATEST_END ?c_MOST_BANDS ?a0 ?l0 ?c0 ?k0 ?a1 ?l1 ?c1 ?k1 ?a2 ?l2 ?c2 ?k2 ?a3 ?l3 ?c3 ?k3 ?a4 ?l4 ?c4 ?k4 ?a5 ?l5 ?c5 ?k5 ?a6 ?l6 ?c6 ?k6 ?a7 ?l7 ?c7 ?k7 ?a8 ?l8 ?c8 ?k8 ?a9 ?l9 ?c9 ?k9 ?a10 ?l10 ?c10 ?k10 ?a11 ?l11 ?c11 ?k11 ?a12 ?l12 ?c12 ?k12 ?a13 ?l13 ?c13 ?k13 ?a14 ?l14 ?c14 ?k14 ?a15 ?l15 ?c15 ?k15 ?a16 ?l16 ?c16 ?k16 ?a17 ?l17 ?c17 ?k17 ?a18 ?l18 ?c18 ?k18 ?a19 ?l19 ?c19 ?k19 ?a20 ?l20 ?c20 ?k20 ?a21 ?l21 ?c21 ?k21 ?a22 ?l22 ?c22 ?k22 ?a23 ?l23 ?c23 ?k23 ?a24 ?l24 ?c24 ?k24 ?a25 ?l25 ?c25 ?k25 ?a26 ?l26 ?c26 ?k26 ?a27 ?l27 ?c27 ?k27 ?a28 ?l28 ?c28 ?k28 ?a29 ?l29 ?c29 ?k29 ?a30 ?l30 ?c30 ?k30 ?a31 ?l31 ?c31 ?k31 ?a32 ?l32 ?c32 ?k32 ?a33 ?l33 ?c33 ?k33 ?a34 ?l34 ?c34 ?k34 ?a35 ?l35 ?c35 ?k35
    (case gx_BadSpeed => k_is)
    (case xx_BadSpeed => k_exc)
    (case kx_BadSpeed => k_is)
    (case bx_BadSpeed => k_is)
    (case tx_BadSpeed => k_is)
    (case gx_BadStretch => k_is)
    (case xx_BadStretch => k_exc)
    (case kx_BadStretch => k_is)
    (case bx_BadStretch => k_is)
    (case tx_BadStretch => k_is)
    (case z_abs => k_is)
    (case z_all => k_is)
    (case z_bool => k_is)
    (case z_divmod => k_is)
    (case z_enumerate => k_is)
    (case z_int => k_is)
    (case z_isinstance => k_is)
    (case z_len => k_is)
    (case z_list => k_is)
    (case z_max => k_is)
    (case z_min => k_is)
    (case z_range => k_is)
    (case z_repr => k_is)
    (case z_sorted => k_is)
    (case z_tuple => k_is)
    (case c_GREATEST_END => exact ⟨_, by k_is⟩)
    (case c_MOST_BANDS => exact ⟨_, by k_is⟩)
    (case a0 => k_is)
    (case l0 => k_is)
    (case c0 => k_is)
    (case k0 => k_is)
    (case a1 => k_is)
    (case l1 => k_is)
    (case c1 => k_is)
    (case k1 => k_is)
    (case a2 => k_is)
    (case l2 => k_is)
    (case c2 => k_is)
    (case k2 => k_is)
    (case a3 => k_is)
    (case l3 => k_is)
    (case c3 => k_is)
    (case k3 => k_is)
    (case a4 => k_is)
    (case l4 => k_is)
    (case c4 => k_is)
    (case k4 => k_is)
    (case a5 => k_is)
    (case l5 => k_is)
    (case c5 => k_is)
    (case k5 => k_is)
    (case a6 => k_is)
    (case l6 => k_is)
    (case c6 => k_is)
    (case k6 => k_is)
    (case a7 => k_is)
    (case l7 => k_is)
    (case c7 => k_is)
    (case k7 => k_is)
    (case a8 => k_is)
    (case l8 => k_is)
    (case c8 => k_is)
    (case k8 => k_is)
    (case a9 => k_is)
    (case l9 => k_is)
    (case c9 => k_is)
    (case k9 => k_is)
    (case a10 => k_is)
    (case l10 => k_is)
    (case c10 => k_is)
    (case k10 => k_is)
    (case a11 => k_is)
    (case l11 => k_is)
    (case c11 => k_is)
    (case k11 => k_is)
    (case a12 => k_is)
    (case l12 => k_is)
    (case c12 => k_is)
    (case k12 => k_is)
    (case a13 => k_is)
    (case l13 => k_is)
    (case c13 => k_is)
    (case k13 => k_is)
    (case a14 => k_is)
    (case l14 => k_is)
    (case c14 => k_is)
    (case k14 => k_is)
    (case a15 => k_is)
    (case l15 => k_is)
    (case c15 => k_is)
    (case k15 => k_is)
    (case a16 => k_is)
    (case l16 => k_is)
    (case c16 => k_is)
    (case k16 => k_is)
    (case a17 => k_is)
    (case l17 => k_is)
    (case c17 => k_is)
    (case k17 => k_is)
    (case a18 => k_is)
    (case l18 => k_is)
    (case c18 => k_is)
    (case k18 => k_is)
    (case a19 => k_is)
    (case l19 => k_is)
    (case c19 => k_is)
    (case k19 => k_is)
    (case a20 => k_is)
    (case l20 => k_is)
    (case c20 => k_is)
    (case k20 => k_is)
    (case a21 => k_is)
    (case l21 => k_is)
    (case c21 => k_is)
    (case k21 => k_is)
    (case a22 => k_is)
    (case l22 => k_is)
    (case c22 => k_is)
    (case k22 => k_is)
    (case a23 => k_is)
    (case l23 => k_is)
    (case c23 => k_is)
    (case k23 => k_is)
    (case a24 => k_is)
    (case l24 => k_is)
    (case c24 => k_is)
    (case k24 => k_is)
    (case a25 => k_is)
    (case l25 => k_is)
    (case c25 => k_is)
    (case k25 => k_is)
    (case a26 => k_is)
    (case l26 => k_is)
    (case c26 => k_is)
    (case k26 => k_is)
    (case a27 => k_is)
    (case l27 => k_is)
    (case c27 => k_is)
    (case k27 => k_is)
    (case a28 => k_is)
    (case l28 => k_is)
    (case c28 => k_is)
    (case k28 => k_is)
    (case a29 => k_is)
    (case l29 => k_is)
    (case c29 => k_is)
    (case k29 => k_is)
    (case a30 => k_is)
    (case l30 => k_is)
    (case c30 => k_is)
    (case k30 => k_is)
    (case a31 => k_is)
    (case l31 => k_is)
    (case c31 => k_is)
    (case k31 => k_is)
    (case a32 => k_is)
    (case l32 => k_is)
    (case c32 => k_is)
    (case k32 => k_is)
    (case a33 => k_is)
    (case l33 => k_is)
    (case c33 => k_is)
    (case k33 => k_is)
    (case a34 => k_is)
    (case l34 => k_is)
    (case c34 => k_is)
    (case k34 => k_is)
    (case a35 => k_is)
    (case l35 => k_is)
    (case c35 => k_is)
    (case k35 => k_is)

