import PyProof.Rows.All
import Wide.All
import OpenK.AllK
import Wide.FinOn
import HandS.ForMost
import HandS.Wide
import HandS.WideBits
import HandS.IsInst
import HandS.Exc
import HandS.ExcOwn
import HandS.TryOnly
import HandS.WordsExc
import HandS.Conv
import KE.KDictKeyed
import HandS.Lambda
import HandS.ExcIs
import HandS.ExcField
import HandS.TupAny
import HandS.TupMul
import HandS.Flow
import HandS.Style
import HandS.Small
import HandS.Iter
import HandS.TupSets
import KE.GoesEnum
import PyProof.ReprRoads
import PyProof.ReprLen
import HandS.SortRule
import HandS.SetBool
import HandS.Strs
import HandS.EndTab
import KE.KExcIs
import HandS.TryMany
import HandS.Property
import KE.DataFind
import HandS.Deep
import HandS.SlotsOwn
import HandS.Words
import HandS.More
import HandS.Defaults
import HandS.TupLe
import KE.KExcSuper
import HandS.ExcInit
import KE.KDictZip
import KE.KTurns
import HandS.ExcValue
import KE.KFmtOwn
import PyProof.InstNe
import HandS.SetFor
import HandS.Text
import KE.KEqNest
import HandS.Star
import HandS.RaiseMore
import HandS.OwnEq
import PyProof.Rows.SortShellAny
import KE.KDictDisplayH
import KE.SortKeyHeap
import KE.KDictCopyH
import KE.DataMinMax
import HandS.Dict
import PyProof.DictUpdate
import PyProof.DictDisplay
import PyProof.EvalArms
import HandS.Zip
import PyProof.LongRange
import PySem.Challenge.RW_flashfolds_k07_rings_of_looks
set_option Elab.async false
set_option linter.all false
set_option maxRecDepth 100000
namespace Px
open PySem PySem.Spec PyProof.Rows L2
inductive D where
  | non | bl (b : Bool) | int (i : Int) | str (s : Str)
  | tup (l : List D) | lst (l : List D)
  | dic (ks : List Key) (l : List D)
  | obj (C : Addr) (ns : List Str) (l : List D)
  | raw (v : V)
  | scr (ns : List Int)
  | clo (f c : Addr) (q : Str) (xs : List V) (l : List D)
  | fnc (f c : Addr) (q : Str) (o : Obj)
  | exv (a : Addr) (cls : Value) (d : Option Addr) (ns : List Str) (l : List D)
def ExV (cls : Value) (d : Option Addr) (a : Addr) : HO := .ext fun h => ∃ (oe : Obj) (vs : Array Value), h.get? a = some oe ∧ Zc cls d oe ∧ oe.data = .fields vs
def FnO (f : Addr) (o : Obj) : HO := .ext fun h => h.get? f = some o
section
variable (K : PySem.W.Frag) (F : Hp)
mutual
def Rp : D → V → Prop
  | .non, v => v = .non
  | .bl b, v => v = .bl b
  | .int i, v => v = .int i
  | .str s, v => v = .str s
  | .tup l, v => ∃ a xs, v = .ref a ∧ SqT K F a xs ∧ RpL l xs
  | .lst l, v => ∃ a xs, v = .ref a ∧ F a = some (.lst xs) ∧ RpL l xs
  | .dic ks l, v => ∃ a kvs, v = .ref a ∧ Rd F a (.dK kvs) ∧ kvs.map (·.1) = ks ∧ RpL l (kvs.map (·.2))
  | .obj C ns l, v => ∃ a dx fs, v = .ref a ∧ F a = some (.ins C dx fs) ∧ fs.map (·.1) = ns ∧ RpL l (fs.map (·.2))
  | .raw w, v => v = w
  | .scr ns, v => ∃ a, v = .ref a ∧ SqL K F a (ns.map V.int)
  | .clo f c q xs l, v => v = .ref f ∧ F c = some (LamX.CodeO c q) ∧ RpL l xs
  | .fnc f c q o, v => v = .ref f ∧ F f = some (FnO f o) ∧ F c = some (LamX.CodeO c q)
  | .exv a cls d ns l, v => v = .ref a ∧ F a = some (ExV cls d a) ∧ ((d = none ∧ ns = [] ∧ l = []) ∨ ∃ b ys, d = some b ∧ F b = some (.xd ys) ∧ ys.map (·.1) = ns ∧ RpL l (ys.map (·.2)))
def RpL : List D → List V → Prop
  | [], xs => xs = []
  | d :: ds, xs => ∃ x r, xs = x :: r ∧ Rp d x ∧ RpL ds r
end
end
section
variable {K : PySem.W.Frag} {F F' : Hp}
theorem same_rd {a : Addr} {u : HO} (e : Same F F') (h : Rd F a u) : Rd F' a u := by
  rcases h with h | ⟨o, h⟩
  · exact .inl (e a _ h)
  · exact .inr ⟨o, e a _ h⟩
theorem same_l {a : Addr} {xs : List V} (e : Same F F') (h : SqL K F a xs) : SqL K F' a xs := h.elim (fun h => .inl (same_rd e h)) .inr
theorem same_t {a : Addr} {xs : List V} (e : Same F F') (h : SqT K F a xs) : SqT K F' a xs := h.elim (fun h => .inl (same_rd e h)) .inr
mutual
theorem Rp.mono (e : Same F F') : ∀ (d : D) (v : V), Rp K F d v → Rp K F' d v
  | .non, _, h => h
  | .bl _, _, h => h
  | .int _, _, h => h
  | .str _, _, h => h
  | .tup l, _, ⟨a, xs, e1, s, r⟩ => ⟨a, xs, e1, same_t e s, RpL.mono e l xs r⟩
  | .lst l, _, ⟨a, xs, e1, s, r⟩ => ⟨a, xs, e1, e _ _ s, RpL.mono e l xs r⟩
  | .dic _ l, _, ⟨a, xs, e1, s, k, r⟩ => ⟨a, xs, e1, same_rd e s, k, RpL.mono e l _ r⟩
  | .obj _ _ l, _, ⟨a, dx, fs, e1, s, k, r⟩ => ⟨a, dx, fs, e1, e _ _ s, k, RpL.mono e l _ r⟩
  | .raw _, _, h => h
  | .scr _, _, ⟨a, e1, s⟩ => ⟨a, e1, same_l e s⟩
  | .clo _ _ _ xs l, _, ⟨h1, h2, h3⟩ => ⟨h1, e _ _ h2, RpL.mono e l xs h3⟩
  | .fnc _ _ _ _, _, ⟨h1, h2, h3⟩ => ⟨h1, e _ _ h2, e _ _ h3⟩
  | .exv _ _ _ _ l, _, ⟨h1, h2, .inl h3⟩ => ⟨h1, e _ _ h2, .inl h3⟩
  | .exv _ _ _ _ l, _, ⟨h1, h2, .inr ⟨b, ys, h3, h4, h5, h6⟩⟩ => ⟨h1, e _ _ h2, .inr ⟨b, ys, h3, e _ _ h4, h5, RpL.mono e l _ h6⟩⟩
theorem RpL.mono (e : Same F F') : ∀ (ds : List D) (xs : List V), RpL K F ds xs → RpL K F' ds xs
  | [], _, h => h
  | d :: ds, _, ⟨x, r, e1, h, t⟩ => ⟨x, r, e1, Rp.mono e d x h, RpL.mono e ds r t⟩
end
theorem RpL.len : ∀ {ds : List D} {xs : List V}, RpL K F ds xs → ds.length = xs.length
  | [], _, h => by rw [h]; rfl
  | d :: ds, _, ⟨x, r, e1, _, t⟩ => by rw [e1, List.length_cons, List.length_cons, RpL.len t]
theorem RpL.app : ∀ {ds es : List D} {xs ys : List V}, RpL K F ds xs → RpL K F es ys → RpL K F (ds ++ es) (xs ++ ys)
  | [], _, _, _, h, t => by rw [h]; exact t
  | d :: ds, _, _, _, ⟨x, r, e1, h, t⟩, q => by rw [e1]; exact ⟨x, _, rfl, h, RpL.app t q⟩
theorem RpL.get : ∀ {ds : List D} {xs : List V} {i : Nat} {d : D}, RpL K F ds xs → ds[i]? = some d → ∃ x, xs[i]? = some x ∧ Rp K F d x
  | [], _, _, _, _, e => by simp at e
  | d :: ds, _, 0, _, ⟨x, r, e1, h, _⟩, e => by
    have e2 : d = _ := Option.some.inj e
    exact ⟨x, by rw [e1]; rfl, e2 ▸ h⟩
  | d :: ds, _, i + 1, _, ⟨x, r, e1, _, t⟩, e => by
    obtain ⟨y, h1, h2⟩ := RpL.get (i := i) t (by simpa using e)
    exact ⟨y, by rw [e1]; simpa using h1, h2⟩
theorem RpL.drop : ∀ {ds : List D} {xs : List V} (i : Nat), RpL K F ds xs → RpL K F (ds.drop i) (xs.drop i)
  | _, _, 0, h => h
  | [], _, i + 1, h => by rw [h]; exact rfl
  | d :: ds, _, i + 1, ⟨x, r, e1, _, t⟩ => by rw [e1]; exact RpL.drop i t
theorem RpL.take : ∀ {ds : List D} {xs : List V} (i : Nat), RpL K F ds xs → RpL K F (ds.take i) (xs.take i)
  | _, _, 0, h => rfl
  | [], _, i + 1, h => by rw [h]; exact rfl
  | d :: ds, _, i + 1, ⟨x, r, e1, h, t⟩ => by rw [e1]; exact ⟨x, _, rfl, h, RpL.take i t⟩
theorem RpL.set : ∀ {ds : List D} {xs : List V} {d : D} {x : V} (i : Nat), RpL K F ds xs → Rp K F d x → RpL K F (ds.set i d) (xs.set i x)
  | [], _, _, _, _, h, _ => by rw [h]; exact rfl
  | _ :: ds, _, _, _, 0, ⟨x, r, e1, _, t⟩, q => by rw [e1]; exact ⟨_, _, rfl, q, t⟩
  | _ :: ds, _, _, _, i + 1, ⟨x, r, e1, h, t⟩, q => by rw [e1]; exact ⟨x, _, rfl, h, RpL.set i t q⟩
theorem RpL.ints : ∀ {ns : List Int} {xs : List V}, RpL K F (ns.map .int) xs → xs = ns.map V.int
  | [], _, h => h
  | n :: ns, _, ⟨x, r, e1, h, t⟩ => by rw [e1, show x = V.int n from h, RpL.ints t]; rfl
theorem RpL.of_ints : ∀ (ns : List Int), RpL K F (ns.map .int) (ns.map V.int)
  | [] => rfl
  | n :: ns => ⟨_, _, rfl, rfl, RpL.of_ints ns⟩
theorem RpL.bls : ∀ {ns : List Bool} {xs : List V}, RpL K F (ns.map .bl) xs → xs = ns.map V.bl
  | [], _, h => h
  | n :: ns, _, ⟨x, r, e1, h, t⟩ => by rw [e1, show x = V.bl n from h, RpL.bls t]; rfl
end
inductive Sv where
  | val (d : D) | own (l : List D)
inductive Mo where
  | draw
  | dct (kvs : List (D × D))
  | lst (l : List D)
  | dik (kvs : List (Key × D))
  | ins (C : Addr) (fs : List (Str × D))
  | tab (q : Str)
abbrev Mm := Addr → Option Mo
inductive Ow where
  | slot (i : Nat) | obj (a : Addr) | tmp
abbrev Rho := List (Option Sv)
abbrev Own := Addr → Option Ow
def gt : Rho → Nat → Option Sv
  | [], _ => none
  | x :: _, 0 => x
  | _ :: r, n + 1 => gt r n
def st : Rho → Nat → Sv → Rho
  | [], _, _ => []
  | _ :: r, 0, y => some y :: r
  | x :: r, n + 1, y => x :: st r n y
theorem st_len : ∀ (ρ : Rho) (i : Nat) (y : Sv), (st ρ i y).length = ρ.length
  | [], _, _ => rfl
  | _ :: r, 0, _ => rfl
  | x :: r, n + 1, y => by show (st r n y).length + 1 = _; rw [st_len r n y]; rfl
theorem gt_lt : ∀ {ρ : Rho} {i : Nat} {y : Sv}, gt ρ i = some y → i < ρ.length
  | [], _, _, h => by cases h
  | _ :: r, 0, _, _ => Nat.succ_pos _
  | x :: r, n + 1, y, h => Nat.succ_lt_succ (gt_lt (ρ := r) h)
theorem gt_st_ne : ∀ {ρ : Rho} {i j : Nat} {y : Sv}, j ≠ i → gt (st ρ i y) j = gt ρ j
  | [], _, _, _, _ => rfl
  | _ :: r, 0, 0, _, h => absurd rfl h
  | _ :: r, 0, j + 1, _, _ => rfl
  | x :: r, n + 1, 0, _, _ => rfl
  | x :: r, n + 1, j + 1, y, h => gt_st_ne (ρ := r) fun e => h (by rw [e])
theorem gt_st_self : ∀ {ρ : Rho} {i : Nat} {y z : Sv}, gt (st ρ i y) i = some z → z = y
  | [], _, _, _, h => by cases h
  | _ :: r, 0, _, _, h => (Option.some.inj h).symm
  | x :: r, n + 1, y, z, h => gt_st_self (ρ := r) h
section
variable (K : PySem.W.Frag)
def SvOk (F : Hp) (H : Hp) (O : Own) (i : Nat) : Sv → V → Prop
  | .val d, v => Rp K F d v
  | .own l, v => ∃ p xs, v = .ref p ∧ H p = some (.lst xs) ∧ RpL K F l xs ∧ O p = some (.slot i)
def drawKeys (l : Addr) (c : V) (rest turn mix : Int) : List (Key × V) :=
  [(.inr "large", .ref l), (.inr "cells", c), (.inr "rest", .int rest), (.inr "turn", .int turn), (.inr "mix", .int mix)]
mutual
def nkOf : D → Option NestedKey
  | .non => some .none
  | .bl b => some (.num (if b = true then 1 else 0))
  | .int i => some (.num i)
  | .tup l => (nkOfL l).map .tup
  | .str _ | .lst _ | .dic _ _ | .obj _ _ _ | .raw _ | .scr _ | .clo _ _ _ _ _ | .fnc _ _ _ _ | .exv _ _ _ _ _ => none
def nkOfL : List D → Option (List NestedKey)
  | [] => some []
  | d :: r => match nkOf d, nkOfL r with
    | some a, some b => some (a :: b)
    | _, _ => none
end
mutual
def ntK : NestedKey → Bool
  | .none => true
  | .num _ => true
  | .text _ => false
  | .tup ks => ntKL ks
def ntKL : List NestedKey → Bool
  | [] => true
  | k :: r => ntK k && ntKL r
end
abbrev KEnts := List (NestedKey × Addr × Value)
def dkP (p : Addr) (xs : KEnts) (h : Heap) : Prop := (p == sysModules) = false ∧ (∀ x ∈ xs, ntK x.1 = true) ∧ (xs.map (·.1)).Nodup ∧ ∃ o es ep, h.get? p = some o ∧ o.ExactDict ∧ o.data = .dict es ep ∧
  ∀ w : World, es.toList = xs.map fun x => ⟨x.1.hash w, .ref x.2.1, x.2.2⟩
def dkO (p : Addr) (xs : KEnts) : HO := .ext (dkP p xs)
def DRel (F : Hp) : List (D × D) → KEnts → Prop
  | [], xs => xs = []
  | p :: r, xs => ∃ x ys v, xs = x :: ys ∧ nkOf p.1 = some x.1 ∧ x.1.depth ≤ 8 ∧ Rp K F p.1 (.ref x.2.1) ∧ Rp K F p.2 v ∧ RelV v x.2.2 ∧ DRel F r ys
def ExOk (F : Hp) (d : Option Addr) (fs : List (Str × D)) : Prop :=
  match d with
  | none => fs = []
  | some a => ∃ ys : List (Str × V), F a = some (.xd ys) ∧ ys.map (·.1) = fs.map (·.1) ∧ RpL K F (fs.map (·.2)) (ys.map (·.2))
def MoOk (F : Hp) (H : Hp) (O : Own) (a : Addr) : Mo → Prop
  | .tab q => ∃ ps : Array Value, H a = some (.tbl ps) ∧ O a = some (.obj a) ∧ TriplesOk ps.toList ∧ ∀ (pos : Pos) (cv : Value), codeAmong pos ps.toList = some cv → ∃ c, cv = .ref c ∧ F c = some (LamX.CodeO c q)
  | .dct kvs => ∃ xs, H a = some (dkO a xs) ∧ O a = some (.obj a) ∧ kvs.length ≤ 1000000 ∧ DRel K F kvs xs
  | .lst l => ∃ xs, H a = some (.lst xs) ∧ O a = some (.obj a) ∧ RpL K F l xs
  | .dik kvs => ∃ ys, H a = some (.dK ys) ∧ O a = some (.obj a) ∧ ys.map (·.1) = kvs.map (·.1) ∧ RpL K F (kvs.map (·.2)) (ys.map (·.2))
  | .ins C fs => ∃ dx ys, H a = some (.ins C dx ys) ∧ O a = some (.obj a) ∧ ys.map (·.1) = fs.map (·.1) ∧ RpL K F (fs.map (·.2)) (ys.map (·.2))
  | .draw => ∃ (l : Addr) (big cells : List Int) (c : V) (rest turn mix : Int), H a = some (.dK (drawKeys l c rest turn mix)) ∧ H l = some (.lst (big.map V.int)) ∧ Rp K F (.lst (cells.map .int)) c ∧
      O a = some (.obj a) ∧ O l = some (.obj a) ∧ big.length ≤ 63 ∧ cells.length ≤ 63 ∧ 0 ≤ mix ∧ mix < 2147483629
structure Gh where
  H0 : Hp
  F0 : Hp
  own0 : Addr → Prop
  tmp : List (Addr × List D) := []
structure Wd (g : Gh) (H : Hp) (M : Mm) (F : Hp) (O : Own) : Prop where
  sub : Same F H
  ext0 : Same g.F0 F
  new : ∀ a o, F a = some o → g.F0 a = some o ∨ g.H0 a = none
  frm : ∀ a o, g.H0 a = some o → ¬ g.own0 a → H a = some o
  thr : ∀ a o, g.H0 a = some o → ∃ o', H a = some o'
  liv : ∀ a o, O a = some o → (∃ x, H a = some x) ∧ F a = none ∧ (g.own0 a ∨ g.H0 a = none)
  slo : ∀ a o, O a = some o → (∀ m, o ≠ .obj m) → g.H0 a = none
  tm : ∀ p l, (p, l) ∈ g.tmp → ∃ xs, H p = some (.lst xs) ∧ RpL K F l xs ∧ O p = some .tmp
  mu : ∀ a mo, M a = some mo → MoOk K F H O a mo
structure Ab (g : Gh) (σ : L2.St) (H : Hp) (ρ : Rho) (M : Mm) (F : Hp) (O : Own) : Prop extends Wd K g H M F O where
  len : ρ.length = σ.length
  sl : ∀ i sv, gt ρ i = some sv → ∃ v, σ[i]? = some (some v) ∧ SvOk K F H O i sv v
end
abbrev PQ := D → Mm → Prop
abbrev PX := Value → List (Str × D) → Mm → Prop
abbrev PWi := Value → List (Str × D) → Rho → Mm → Prop
abbrev PTE := PWi → Rho → Mm → PQ → Prop
abbrev PTT := PWi → Rho → Mm → (Bool → Mm → Prop) → Prop
abbrev PTA := PWi → Rho → Mm → (List D → Mm → Prop) → Prop
structure PEnds where
  nx : Rho → Mm → Prop
  rt : D → Mm → Prop
  bk : Rho → Mm → Prop := fun _ _ => False
  ct : Rho → Mm → Prop := fun _ _ => False
  rl : List D → Mm → Prop := fun _ _ => False
abbrev PTS := PWi → PEnds → Rho → Mm → Prop
def WOk (K : PySem.W.Frag) (g : Gh) (F : Hp) (W : WX) (w : PWi) : Prop :=
  ∀ cls dd σ H ρ M F' O fs, Ab K g σ H ρ M F' O → Same F F' → ExOk K F' dd fs → w cls fs ρ M → W cls dd σ H
theorem WOk.mono {K : PySem.W.Frag} {g : Gh} {F F' : Hp} {W : WX} {w : PWi} (h : WOk K g F W w) (e : Same F F') : WOk K g F' W w :=
  fun cls dd σ H ρ M F2 O fs a s x y => h cls dd σ H ρ M F2 O fs a (e.trans s) x y
def real (K : PySem.W.Frag) (W : WX) (p : PTE) : TE := fun σ H Q => ∃ g ρ M F O q w, Ab K g σ H ρ M F O ∧ p w ρ M q ∧ WOk K g F W w ∧
  ∀ v H' F' O' M' d, Ab K g σ H' ρ M' F' O' → Same F F' → Rp K F' d v → q d M' → Q v H'
def realT (K : PySem.W.Frag) (W : WX) (p : PTT) : TT := fun σ H Q => ∃ g ρ M F O q w, Ab K g σ H ρ M F O ∧ p w ρ M q ∧ WOk K g F W w ∧
  ∀ b H' F' O' M', Ab K g σ H' ρ M' F' O' → Same F F' → q b M' → Q b H'
def realA (K : PySem.W.Frag) (W : WX) (p : PTA) : TA := fun σ H Q => ∃ g ρ M F O q w, Ab K g σ H ρ M F O ∧ p w ρ M q ∧ WOk K g F W w ∧
  ∀ vs H' F' O' M' ds, Ab K g σ H' ρ M' F' O' → Same F F' → RpL K F' ds vs → q ds M' → Q vs H'
def realS (K : PySem.W.Frag) (W : WX) (p : PTS) : TS := fun D σ H => ∃ g ρ M F O P w, Ab K g σ H ρ M F O ∧ p w P ρ M ∧ WOk K g F W w ∧
  (∀ σ' H' ρ' M' F' O', Ab K g σ' H' ρ' M' F' O' → Same F F' → P.nx ρ' M' → D.nx σ' H') ∧
  (∀ v σ' H' ρ' M' F' O' d, Ab K g σ' H' ρ' M' F' O' → Same F F' → Rp K F' d v → P.rt d M' → D.rt v H') ∧
  (∀ σ' H' ρ' M' F' O', Ab K g σ' H' ρ' M' F' O' → Same F F' → P.bk ρ' M' → D.bk σ' H') ∧
  (∀ σ' H' ρ' M' F' O', Ab K g σ' H' ρ' M' F' O' → Same F F' → P.ct ρ' M' → D.ct σ' H') ∧
  (∀ a xs σ' H' ρ' M' F' O' ds, Ab K g σ' H' ρ' M' F' O' → Same F F' → H' a = some (.lst xs) → RpL K F' ds xs → F' a = none → O' a = none → g.H0 a = none → P.rl ds M' → D.rt (.ref a) H')
abbrev DE (X : Cx) (W : WX) (e : Expr) (p : PTE) : Prop := PE X e (real X.K W p)
abbrev DT (X : Cx) (W : WX) (e : Expr) (p : PTT) : Prop := PT X e (realT X.K W p)
abbrev DA (X : Cx) (W : WX) (es : List Expr) (p : PTA) : Prop := PA X es (realA X.K W p)
abbrev DS (X : Cx) (W : WX) (s : Stmt) (p : PTS) : Prop := PS X s (realS X.K W p)
abbrev DSs (X : Cx) (W : WX) (s : List Stmt) (p : PTS) : Prop := PSs X s (realS X.K W p)
section
variable {X : Cx} {e : Expr} {t t' : TE} {es : List Expr} {s : Stmt} {ss : List Stmt}
theorem pe_imp (h : PE X e t) (i : ∀ σ H Q, t' σ H Q → t σ H Q) : PE X e t' := ⟨fun pins s σ H Q I hw => h.run pins s σ H Q I (i σ H Q hw)⟩
theorem pt_imp {t t' : TT} (h : PT X e t) (i : ∀ σ H Q, t' σ H Q → t σ H Q) : PT X e t' := ⟨fun pins s σ H Q I hw => h.run pins s σ H Q I (i σ H Q hw)⟩
theorem pw_imp {t t' : TT} (h : L2.PW X e t) (i : ∀ σ H Q, t' σ H Q → t σ H Q) : L2.PW X e t' := ⟨fun wh pins s σ H Q I hw => h.run wh pins s σ H Q I (i σ H Q hw)⟩
theorem pa_imp {t t' : TA} (h : PA X es t) (i : ∀ σ H Q, t' σ H Q → t σ H Q) : PA X es t' := ⟨fun pos pins s σ H Q I hw => h.run pos pins s σ H Q I (i σ H Q hw)⟩
theorem ps_imp {t t' : TS} (h : PS X s t) (i : ∀ D σ H, t' D σ H → t D σ H) : PS X s t' := ⟨fun pins s σ H D I hw => h.run pins s σ H D I (i D σ H hw)⟩
theorem pss_imp {t t' : TS} (h : PSs X ss t) (i : ∀ D σ H, t' D σ H → t D σ H) : PSs X ss t' := ⟨fun pins s σ H D I hw => h.run pins s σ H D I (i D σ H hw)⟩
end
end Px
set_option Elab.async false
set_option linter.all false
set_option maxRecDepth 100000
namespace Px
open PySem PySem.Spec PyProof.Rows L2
section
variable {K : PySem.W.Frag} {g : Gh} {σ : L2.St} {H H' : Hp} {ρ : Rho} {M : Mm} {F F' : Hp} {O O' : Own} {a p : Addr} {o : HO} {i : Nat}
theorem SvOk.mono {sv : Sv} {v : V} (e : Same F F') (k : ∀ p xs, H p = some (.lst xs) → O p = some (.slot i) → H' p = some (.lst xs) ∧ O' p = some (.slot i)) (h : SvOk K F H O i sv v) : SvOk K F' H' O' i sv v := by
  cases sv with
  | val d => exact Rp.mono e d v h
  | own l =>
    obtain ⟨p, xs, e1, e2, r, e3⟩ := h
    obtain ⟨k1, k2⟩ := k p xs e2 e3
    exact ⟨p, xs, e1, k1, RpL.mono e l xs r, k2⟩
theorem DRel.mono (e : Same F F') : ∀ (kvs : List (D × D)) (xs : KEnts), DRel K F kvs xs → DRel K F' kvs xs
  | [], _, h => h
  | p :: r, _, ⟨x, ys, v, e1, e2, e3, e4, e5, e6, e7⟩ => ⟨x, ys, v, e1, e2, e3, Rp.mono e _ _ e4, Rp.mono e _ _ e5, e6, DRel.mono e r ys e7⟩
theorem ExOk.mono {d : Option Addr} {fs : List (Str × D)} (e : Same F F') (h : ExOk K F d fs) : ExOk K F' d fs := by
  cases d with
  | none => exact h
  | some a =>
    obtain ⟨ys, h1, h2, h3⟩ := h
    exact ⟨ys, e _ _ h1, h2, RpL.mono e _ _ h3⟩
theorem MoOk.mono {mo : Mo} (e : Same F F') (k : ∀ p u, H p = some u → O p = some (.obj a) → H' p = some u ∧ O' p = some (.obj a)) (h : MoOk K F H O a mo) : MoOk K F' H' O' a mo := by
  cases mo with
  | dct kvs =>
    obtain ⟨xs, h1, h2, h3, h4⟩ := h
    exact ⟨xs, (k _ _ h1 h2).1, (k _ _ h1 h2).2, h3, DRel.mono e _ _ h4⟩
  | lst l =>
    obtain ⟨xs, h1, h2, h3⟩ := h
    exact ⟨xs, (k _ _ h1 h2).1, (k _ _ h1 h2).2, RpL.mono e _ _ h3⟩
  | dik kvs =>
    obtain ⟨ys, h1, h2, h3, h4⟩ := h
    exact ⟨ys, (k _ _ h1 h2).1, (k _ _ h1 h2).2, h3, RpL.mono e _ _ h4⟩
  | ins C fs =>
    obtain ⟨dx, ys, h1, h2, h3, h4⟩ := h
    exact ⟨dx, ys, (k _ _ h1 h2).1, (k _ _ h1 h2).2, h3, RpL.mono e _ _ h4⟩
  | tab q =>
    obtain ⟨ps, h1, h2, h3, h4⟩ := h
    refine ⟨ps, (k _ _ h1 h2).1, (k _ _ h1 h2).2, h3, fun pos cv hc => ?_⟩
    obtain ⟨c, e1, e2⟩ := h4 pos cv hc
    exact ⟨c, e1, e _ _ e2⟩
  | draw =>
    obtain ⟨l, big, cells, c, rest, turn, mix, h1, h2, h3, h4, h5, h6⟩ := h
    exact ⟨l, big, cells, c, rest, turn, mix, (k _ _ h1 h4).1, (k _ _ h2 h5).1, Rp.mono e _ _ h3, (k _ _ h1 h4).2, (k _ _ h2 h5).2, h6⟩
theorem Wd.g0 (A : Wd K g H M F O) (h : H p = none) : g.H0 p = none := by
  cases e : g.H0 p with
  | none => rfl
  | some o =>
    obtain ⟨o', z⟩ := A.thr p o e
    rw [h] at z
    cases z
theorem Wd.f0 (A : Wd K g H M F O) (h : H p = none) : F p = none := by
  cases e : F p with
  | none => rfl
  | some o => rw [A.sub p o e] at h; cases h
theorem Wd.o0 (A : Wd K g H M F O) (h : H p = none) : O p = none := by
  cases e : O p with
  | none => rfl
  | some o =>
    obtain ⟨⟨x, z⟩, _⟩ := A.liv p o e
    rw [h] at z
    cases z
theorem MoOk.at {mo : Mo} {p : Addr} (h : MoOk K F H O p mo) : ∃ u, H p = some u := by
  cases mo with
  | draw => obtain ⟨_, _, _, _, _, _, _, q1, _⟩ := h; exact ⟨_, q1⟩
  | dct kvs => obtain ⟨_, q1, _⟩ := h; exact ⟨_, q1⟩
  | lst l => obtain ⟨_, q1, _⟩ := h; exact ⟨_, q1⟩
  | dik kvs => obtain ⟨_, q1, _⟩ := h; exact ⟨_, q1⟩
  | ins C fs => obtain ⟨_, _, q1, _⟩ := h; exact ⟨_, q1⟩
  | tab q => obtain ⟨_, q1, _⟩ := h; exact ⟨_, q1⟩
theorem Wd.m0 (A : Wd K g H M F O) (h : H p = none) : M p = none := by
  cases z : M p with
  | none => rfl
  | some mo =>
    obtain ⟨u, e⟩ := (A.mu p mo z).at
    rw [h] at e; cases e
theorem Ab.laid (A : Ab K g σ H ρ M F O) (h : H p = none) : Ab K g σ (upd H p o) ρ M F O := by
  have ne : ∀ b u, H b = some u → b ≠ p := fun b u e z => by rw [z, h] at e; cases e
  have up : ∀ b u, H b = some u → upd H p o b = some u := fun b u e => by rw [upd_ne (ne b u e)]; exact e
  exact { sub := fun b u e => up b u (A.sub b u e), ext0 := A.ext0, new := A.new, frm := fun b u e n => up b u (A.frm b u e n), thr := fun b u e => by
            obtain ⟨o', z⟩ := A.thr b u e
            exact ⟨o', up b o' z⟩
          liv := fun b u e => by
            obtain ⟨⟨x, z⟩, r⟩ := A.liv b u e
            exact ⟨⟨x, up b x z⟩, r⟩
          slo := A.slo, tm := fun q l e => by
            obtain ⟨xs, e1, e2, e3⟩ := A.tm q l e
            exact ⟨xs, up q _ e1, e2, e3⟩
          mu := fun b mo e => (A.mu b mo e).mono (Same.refl F) fun q u e1 e2 => ⟨up q u e1, e2⟩, len := A.len, sl := fun j sv e => by
            obtain ⟨v, e1, r⟩ := A.sl j sv e
            exact ⟨v, e1, r.mono (Same.refl F) fun q xs e1 e2 => ⟨up q _ e1, e2⟩⟩ }
theorem same_new (h : F p = none) : Same F (upd F p o) := fun b u e => by
  rw [upd_ne (fun z => by rw [z, h] at e; cases e)]
  exact e
theorem Ab.freeze (A : Ab K g σ H ρ M F O) (h : H p = some o) (hF : F p = none) (hO : O p = none) (h0 : g.H0 p = none) : Ab K g σ H ρ M (upd F p o) O := by
  have s : Same F (upd F p o) := same_new hF
  exact { sub := fun b u e => by
            by_cases z : b = p
            · subst z; rw [upd_same] at e; rw [h]; exact e
            · rw [upd_ne z] at e; exact A.sub b u e
          ext0 := A.ext0.trans s, new := fun b u e => by
            by_cases z : b = p
            · subst z; exact .inr h0
            · rw [upd_ne z] at e; exact A.new b u e
          frm := A.frm, thr := A.thr, liv := fun b u e => by
            obtain ⟨r1, r2, r3⟩ := A.liv b u e
            refine ⟨r1, ?_, r3⟩
            rw [upd_ne (fun z => by rw [z, hO] at e; cases e)]
            exact r2
          slo := A.slo, tm := fun q l e => by
            obtain ⟨xs, e1, e2, e3⟩ := A.tm q l e
            exact ⟨xs, e1, RpL.mono s _ _ e2, e3⟩
          mu := fun b mo e => (A.mu b mo e).mono s fun q u e1 e2 => ⟨e1, e2⟩, len := A.len, sl := fun j sv e => by
            obtain ⟨v, e1, r⟩ := A.sl j sv e
            exact ⟨v, e1, r.mono s fun q xs e1 e2 => ⟨e1, e2⟩⟩ }
theorem Ab.lay (A : Ab K g σ H ρ M F O) (h : H p = none) : Ab K g σ (upd H p o) ρ M (upd F p o) O :=
  (A.laid h).freeze upd_same (A.f0 h) (A.o0 h) (A.g0 h)
theorem Ab.gt_lt (A : Ab K g σ H ρ M F O) {sv : Sv} (e : gt ρ i = some sv) : i < σ.length := by
  rw [← A.len]
  exact Px.gt_lt e
theorem set_same {x : V} (h : i < σ.length) : (σ.set i (some x))[i]? = some (some x) := List.getElem?_set_self h
theorem gt_st_lt {sv y : Sv} (e : gt (st ρ i y) i = some sv) : i < ρ.length := by rw [← st_len ρ i y]; exact Px.gt_lt e
theorem Ab.put {d : D} {v : V} (A : Ab K g σ H ρ M F O) (r : Rp K F d v) : Ab K g (σ.set i (some v)) H (st ρ i (.val d)) M F O :=
  { toWd := A.toWd, len := by rw [st_len, List.length_set]; exact A.len, sl := fun j sv e => by
      by_cases z : j = i
      · subst z
        have e2 := gt_st_self e
        subst e2
        exact ⟨v, set_same (by rw [← A.len]; exact gt_st_lt e), r⟩
      · rw [gt_st_ne z] at e
        obtain ⟨u, e1, q⟩ := A.sl j sv e
        exact ⟨u, by rw [List.getElem?_set_ne (Ne.symm z)]; exact e1, q⟩ }
theorem Ab.putOwn {l : List D} {xs : List V} (A : Ab K g σ H ρ M F O) (h : H p = some (.lst xs)) (r : RpL K F l xs) (hF : F p = none) (hO : O p = none) (h0 : g.H0 p = none) :
    Ab K g (σ.set i (some (.ref p))) H (st ρ i (.own l)) M F (fun b => if b = p then some (.slot i) else O b) := by
  have keep : ∀ b u, O b = some u → (if b = p then some (Ow.slot i) else O b) = some u := fun b u e => by rw [if_neg (fun z => by rw [z, hO] at e; cases e)]; exact e
  exact { sub := A.sub, ext0 := A.ext0, new := A.new, frm := A.frm, thr := A.thr
          liv := fun b u e => by
            by_cases z : b = p
            · subst z; exact ⟨⟨_, h⟩, hF, .inr h0⟩
            · rw [if_neg z] at e; exact A.liv b u e
          slo := fun b j e n => by
            by_cases z : b = p
            · subst z; exact h0
            · rw [if_neg z] at e; exact A.slo b j e n
          tm := fun q l e => by
            obtain ⟨xs, e1, e2, e3⟩ := A.tm q l e
            exact ⟨xs, e1, e2, keep q _ e3⟩
          mu := fun b mo e => (A.mu b mo e).mono (Same.refl F) fun q u e1 e2 => ⟨e1, keep q _ e2⟩
          len := by rw [st_len, List.length_set]; exact A.len
          sl := fun j sv e => by
            by_cases z : j = i
            · subst z
              have e2 := gt_st_self e
              subst e2
              exact ⟨.ref p, set_same (by rw [← A.len]; exact gt_st_lt e), p, xs, rfl, h, r, if_pos rfl⟩
            · rw [gt_st_ne z] at e
              obtain ⟨u, e1, q⟩ := A.sl j sv e
              exact ⟨u, by rw [List.getElem?_set_ne (Ne.symm z)]; exact e1, q.mono (Same.refl F) fun q xs e1 e2 => ⟨e1, keep q _ e2⟩⟩ }
theorem Ab.chg {l l' : List D} {xs ys : List V} (A : Ab K g σ H ρ M F O) (hi : gt ρ i = some (.own l)) (hp : σ[i]? = some (some (.ref p))) (hO : O p = some (.slot i)) (r : RpL K F l' ys) :
    Ab K g σ (upd H p (.lst ys)) (st ρ i (.own l')) M F O := by
  have ne : ∀ b u, O b = some u → u ≠ .slot i → b ≠ p := fun b u e n z => by rw [z, hO] at e; exact n (Option.some.inj e).symm
  obtain ⟨⟨ox, hx⟩, hF, _⟩ := A.liv p _ hO
  exact { sub := fun b u e => by rw [upd_ne (fun z => by rw [z, hF] at e; cases e)]; exact A.sub b u e
          ext0 := A.ext0, new := A.new
          frm := fun b u e n => by rw [upd_ne (fun z => by rw [z, A.slo p _ hO (fun _ z => by cases z)] at e; cases e)]; exact A.frm b u e n
          thr := fun b u e => by rw [upd_ne (fun z => by rw [z, A.slo p _ hO (fun _ z => by cases z)] at e; cases e)]; exact A.thr b u e
          liv := fun b u e => by
            obtain ⟨r1, r2⟩ := A.liv b u e
            refine ⟨?_, r2⟩
            by_cases z : b = p
            · subst z; exact ⟨_, upd_same⟩
            · rw [upd_ne z]; exact r1
          slo := A.slo
          tm := fun q l e => by
            obtain ⟨xs, e1, e2, e3⟩ := A.tm q l e
            exact ⟨xs, by rw [upd_ne (ne q _ e3 (fun z => by cases z))]; exact e1, e2, e3⟩
          mu := fun b mo e => (A.mu b mo e).mono (Same.refl F) fun q u e1 e2 => ⟨by rw [upd_ne (ne q _ e2 (fun z => by cases z))]; exact e1, e2⟩
          len := by rw [st_len]; exact A.len
          sl := fun j sv e => by
            by_cases z : j = i
            · subst z
              have e2 := gt_st_self e
              subst e2
              exact ⟨.ref p, hp, p, ys, rfl, upd_same, r, hO⟩
            · rw [gt_st_ne z] at e
              obtain ⟨u, e1, q⟩ := A.sl j sv e
              exact ⟨u, e1, q.mono (Same.refl F) fun q xs e1 e2 => ⟨by rw [upd_ne (ne q _ e2 (fun y => z (by cases y; rfl)))]; exact e1, e2⟩⟩ }
theorem Ab.frz {l : List D} (A : Ab K g σ H ρ M F O) (hi : gt ρ i = some (.own l)) : ∃ F' O', Ab K g σ H (st ρ i (.val (.lst l))) M F' O' ∧ Same F F' := by
  obtain ⟨v, hv, p, xs, rfl, hp, r, hO⟩ := A.sl i _ hi
  obtain ⟨_, hF, _⟩ := A.liv p _ hO
  have s : Same F (upd F p (.lst xs)) := same_new hF
  have ne : ∀ b u, O b = some u → u ≠ .slot i → b ≠ p := fun b u e n z => by rw [z, hO] at e; exact n (Option.some.inj e).symm
  refine ⟨upd F p (.lst xs), fun b => if b = p then none else O b, ?_, s⟩
  exact { sub := fun b u e => by
            by_cases z : b = p
            · subst z; rw [upd_same] at e; rw [hp]; exact e
            · rw [upd_ne z] at e; exact A.sub b u e
          ext0 := A.ext0.trans s
          new := fun b u e => by
            by_cases z : b = p
            · subst z; exact .inr (A.slo _ _ hO (fun _ z => by cases z))
            · rw [upd_ne z] at e; exact A.new b u e
          frm := A.frm, thr := A.thr
          liv := fun b u e => by
            by_cases z : b = p
            · rw [if_pos z] at e; cases e
            · rw [if_neg z] at e
              obtain ⟨r1, r2, r3⟩ := A.liv b u e
              exact ⟨r1, by rw [upd_ne z]; exact r2, r3⟩
          slo := fun b j e n => by
            by_cases z : b = p
            · rw [if_pos z] at e; cases e
            · rw [if_neg z] at e; exact A.slo b j e n
          tm := fun q l e => by
            obtain ⟨xs, e1, e2, e3⟩ := A.tm q l e
            exact ⟨xs, e1, RpL.mono s _ _ e2, by rw [if_neg (ne q _ e3 (fun z => by cases z))]; exact e3⟩
          mu := fun b mo e => (A.mu b mo e).mono s fun q u e1 e2 => ⟨e1, by rw [if_neg (ne q _ e2 (fun z => by cases z))]; exact e2⟩
          len := by rw [st_len]; exact A.len
          sl := fun j sv e => by
            by_cases z : j = i
            · subst z
              have e2 := gt_st_self e
              subst e2
              exact ⟨.ref p, hv, p, xs, rfl, upd_same, RpL.mono s l xs r⟩
            · rw [gt_st_ne z] at e
              obtain ⟨u, e1, q⟩ := A.sl j sv e
              exact ⟨u, e1, q.mono s fun q xs e1 e2 => ⟨e1, by rw [if_neg (ne q _ e2 (fun y => z (by cases y; rfl)))]; exact e2⟩⟩ }
end
def Vw (K : PySem.W.Frag) (σ : L2.St) (ρ : Rho) (F : Hp) (d : D) (v : V) : Prop :=
  Rp K F d v ∨ ∃ i l p, gt ρ i = some (.own l) ∧ σ[i]? = some (some (.ref p)) ∧ v = .ref p ∧ d = .lst l
section
variable {K : PySem.W.Frag} {g : Gh} {σ : L2.St} {H : Hp} {ρ : Rho} {M : Mm} {F F' : Hp} {O : Own} {d : D} {v : V}
theorem Vw.mono (e : Same F F') (h : Vw K σ ρ F d v) : Vw K σ ρ F' d v := h.elim (fun h => .inl (Rp.mono e d v h)) .inr
theorem Vw.int {i : Int} (h : Vw K σ ρ F (.int i) v) : v = .int i := by
  rcases h with h | ⟨_, _, _, _, _, _, h⟩
  · exact h
  · cases h
theorem Vw.bl {i : Bool} (h : Vw K σ ρ F (.bl i) v) : v = .bl i := by
  rcases h with h | ⟨_, _, _, _, _, _, h⟩
  · exact h
  · cases h
theorem Vw.str {i : Str} (h : Vw K σ ρ F (.str i) v) : v = .str i := by
  rcases h with h | ⟨_, _, _, _, _, _, h⟩
  · exact h
  · cases h
theorem Vw.non (h : Vw K σ ρ F .non v) : v = .non := by
  rcases h with h | ⟨_, _, _, _, _, _, h⟩
  · exact h
  · cases h
theorem Vw.lst {l : List D} (A : Ab K g σ H ρ M F O) (h : Vw K σ ρ F (.lst l) v) : ∃ a xs, v = .ref a ∧ H a = some (.lst xs) ∧ RpL K F l xs := by
  rcases h with ⟨a, xs, e, s, r⟩ | ⟨i, l', p, h1, h2, h3, h4⟩
  · exact ⟨a, xs, e, A.sub _ _ s, r⟩
  · cases h4
    obtain ⟨u, e1, q, xs, e2, e3, r, e4⟩ := A.sl i _ h1
    rw [h2] at e1
    cases e1
    cases e2
    exact ⟨p, xs, h3, e3, r⟩
theorem Vw.scr {l : List Int} (A : Ab K g σ H ρ M F O) (h : Vw K σ ρ F (.scr l) v) : ∃ a, v = .ref a ∧ SqL K H a (l.map V.int) := by
  rcases h with ⟨a, e, s⟩ | ⟨_, _, _, _, _, _, h⟩
  · exact ⟨a, e, same_l A.sub s⟩
  · cases h
theorem Vw.tupF {l : List D} (h : Vw K σ ρ F (.tup l) v) : ∃ a xs, v = .ref a ∧ SqT K F a xs ∧ RpL K F l xs := by
  rcases h with h | ⟨_, _, _, _, _, _, h⟩
  · exact h
  · cases h
theorem Vw.tup {l : List D} (A : Ab K g σ H ρ M F O) (h : Vw K σ ρ F (.tup l) v) : ∃ a xs, v = .ref a ∧ SqT K H a xs ∧ RpL K F l xs := by
  rcases h with ⟨a, xs, e, s, r⟩ | ⟨_, _, _, _, _, _, h⟩
  · exact ⟨a, xs, e, same_t A.sub s, r⟩
  · cases h
end
def realO (K : PySem.W.Frag) (W : WX) (p : PTE) : TE := fun σ H Q => ∃ g ρ M F O q w, Ab K g σ H ρ M F O ∧ p w ρ M q ∧ WOk K g F W w ∧
  ∀ v H' F' O' M' d, Ab K g σ H' ρ M' F' O' → Same F F' → Vw K σ ρ F' d v → q d M' → Q v H'
abbrev DO (X : Cx) (W : WX) (e : Expr) (p : PTE) : Prop := PE X e (realO X.K W p)
def realL (K : PySem.W.Frag) (W : WX) (p : PTA) : TE := fun σ H Q => ∃ g ρ M F O q w, Ab K g σ H ρ M F O ∧ p w ρ M q ∧ WOk K g F W w ∧
  ∀ a xs H' F' O' M' ds, Ab K g σ H' ρ M' F' O' → Same F F' → H' a = some (.lst xs) → RpL K F' ds xs → F' a = none → O' a = none → g.H0 a = none → q ds M' → Q (.ref a) H'
abbrev DL (X : Cx) (W : WX) (e : Expr) (p : PTA) : Prop := PE X e (realL X.K W p)
def dL (p : PTA) : PTE := fun w ρ M q => p w ρ M fun ds M' => q (.lst ds) M'
section
variable {X : Cx} {W : WX} {a b c e : Expr} {es : List Expr} {pa pb pc : PTE} {pl : PTA} {pos : Pos}
theorem do_of (h : DE X W e pa) : DO X W e pa := pe_imp h fun σ H Q ⟨g, ρ, M, F, O, q, w, A, p, hw, k⟩ =>
  ⟨g, ρ, M, F, O, q, w, A, p, hw, fun v H' F' O' M' d A' s r q => k v H' F' O' M' d A' s (.inl r) q⟩
theorem de_l (h : DL X W e pl) : DE X W e (dL pl) := pe_imp h fun σ H Q ⟨g, ρ, M, F, O, q, w, A, p, hw, k⟩ =>
  ⟨g, ρ, M, F, O, _, w, A, p, hw, fun a xs H' F' O' M' ds A' s hH r hF hO h0 q =>
    have s2 : Same F' (upd F' a (.lst xs)) := same_new hF
    k (.ref a) H' _ O' M' (.lst ds) (A'.freeze hH hF hO h0) (s.trans s2) ⟨a, xs, rfl, upd_same, RpL.mono s2 ds xs r⟩ q⟩
def dVar (i : Nat) : PTE := fun _ ρ M q => match gt ρ i with | some (.val d) => q d M | _ => False
def dOwn (i : Nat) : PTE := fun _ ρ M q => match gt ρ i with | some (.val d) => q d M | some (.own l) => q (.lst l) M | _ => False
theorem dv (i : Nat) {x : Str} {pos : Pos} (hN : X.N[i]? = some x := by rfl) (hv : Vis X.env.scope x := by first | exact Or.inl rfl | exact Or.inr (Or.inl rfl) | exact Or.inr (Or.inr rfl)) (hd : (x == ("__debug__" : Str)) = false := by decide)
    (hcd : (x == ("__classdict__" : Str)) = false := by decide) : DE X W (.Name x pos) (dVar i) := pe_imp (pv i hN hv hd hcd) fun σ H Q ⟨g, ρ, M, F, O, q, w, A, p, hw, k⟩ => by
  unfold dVar at p
  split at p
  · rename_i d e
    obtain ⟨v, e1, r⟩ := A.sl i _ e
    exact ⟨v, e1, k v H F O M d A (Same.refl F) r p⟩
  · exact p.elim
theorem dn (i : Nat) {x : Str} {pos : Pos} (hN : X.N[i]? = some x := by rfl) (hv : Vis X.env.scope x := by first | exact Or.inl rfl | exact Or.inr (Or.inl rfl) | exact Or.inr (Or.inr rfl)) (hd : (x == ("__debug__" : Str)) = false := by decide)
    (hcd : (x == ("__classdict__" : Str)) = false := by decide) : DO X W (.Name x pos) (dOwn i) := pe_imp (pv i hN hv hd hcd) fun σ H Q ⟨g, ρ, M, F, O, q, w, A, p, hw, k⟩ => by
  unfold dOwn at p
  split at p
  · rename_i d e
    obtain ⟨v, e1, r⟩ := A.sl i _ e
    exact ⟨v, e1, k v H F O M d A (Same.refl F) (.inl r) p⟩
  · rename_i l e
    obtain ⟨v, e1, a, xs, rfl, h2, r, h3⟩ := A.sl i _ e
    exact ⟨.ref a, e1, k (.ref a) H F O M (.lst l) A (Same.refl F) (.inr ⟨i, l, a, e, e1, rfl, rfl⟩) p⟩
  · exact p.elim
def dC (d : D) : PTE := fun _ _ M q => q d M
theorem dc_of {v : V} {d : D} (h : PE X e (tC v)) (hr : ∀ F, Rp X.K F d v) : DE X W e (dC d) := pe_imp h fun σ H Q ⟨g, ρ, M, F, O, q, w, A, p, hw, k⟩ => k v H F O M d A (Same.refl F) (hr F) p
theorem de_int {i : Int} {j : Nat} : DE X W (.Constant (.int i) j pos) (dC (.int i)) := dc_of pe_int fun _ => rfl
theorem de_bl {i : Bool} {j : Nat} : DE X W (.Constant (.bool i) j pos) (dC (.bl i)) := dc_of pe_bl fun _ => rfl
theorem de_non {j : Nat} : DE X W (.Constant .none j pos) (dC .non) := dc_of pe_non fun _ => rfl
theorem de_gint {x : Str} {i : Int} {t : Tok} (hg : Gl X x) (hm : X.mg x = some (.int i t)) (hd : (x == ("__debug__" : Str)) = false := by decide) : DE X W (.Name x pos) (dC (.int i)) := dc_of (v := .int i) (pe_glob hg hm (show RelV (.int i) _ from ⟨t, rfl⟩) hd) fun _ => rfl
theorem de_gstr {x y : Str} {t : Tok} (hg : Gl X x) (hm : X.mg x = some (.str y t)) (hd : (x == ("__debug__" : Str)) = false := by decide) : DE X W (.Name x pos) (dC (.str y)) := dc_of (v := .str y) (pe_glob hg hm (show RelV (.str y) _ from ⟨t, rfl⟩) hd) fun _ => rfl
abbrev F2 := D → D → (D → Prop) → Prop
def OpF (K : PySem.W.Frag) (r : R2) (f : F2) : Prop := ∀ g σ H ρ M F O x y v u (k : D → Prop) (Q : VK), Ab K g σ H ρ M F O → Vw K σ ρ F x v → Vw K σ ρ F y u → f x y k →
  (∀ z w H' F' O', Ab K g σ H' ρ M F' O' → Same F F' → Rp K F' z w → k z → Q w H') → r v u H Q
def dOp (f : F2) (pa pb : PTE) : PTE := fun w ρ M q => pa w ρ M fun x M1 => pb w ρ M1 fun y M2 => f x y fun z => q z M2
theorem op_run {r : R2} {f : F2} (hf : OpF X.K r f) {σ : L2.St} {H : Hp} {Q : VK} (h : real X.K W (dOp f pa pb) σ H Q) : tOp r (realO X.K W pa) (realO X.K W pb) σ H Q := by
  obtain ⟨g, ρ, M, F, O, q, w, A, p, hw, k⟩ := h
  exact ⟨g, ρ, M, F, O, _, w, A, p, hw, fun v H1 F1 O1 M1 d A1 s1 r1 q1 => ⟨g, ρ, M1, F1, O1, _, w, A1, q1, hw.mono s1, fun u H2 F2 O2 M2 e A2 s2 r2 q2 =>
    hf g σ H2 ρ M2 F2 O2 d e v u _ Q A2 (r1.mono s2) r2 q2 fun z w3 H3 F3 O3 A3 s3 r3 q3 => k w3 H3 F3 O3 M2 z A3 ((s1.trans s2).trans s3) r3 q3⟩⟩
theorem de_op {op : Operator} {r : R2} {f : F2} (ho : OpR X (binaryOp op) r) (hf : OpF X.K r f) (ha : DO X W a pa) (hb : DO X W b pb) : DE X W (.BinOp a op b pos) (dOp f pa pb) := pe_imp (pe_op ho ha hb) fun σ H Q h => op_run hf h
theorem de_cmp {op : CmpOp} {r : R2} {f : F2} (ho : OpR X (compareOp op) r) (hf : OpF X.K r f) (ha : DO X W a pa) (hb : DO X W b pb) (hm : behindInMarks op b = false) : DE X W (.Compare a [op] [b] pos) (dOp f pa pb) := pe_imp (pe_cmpR ho ha hb hm) fun σ H Q h => op_run hf h
def isB (d : D) (k : Bool → Prop) : Prop := match d with | .bl b => k b | _ => False
def dTst (p : PTE) : PTT := fun w ρ M q => p w ρ M fun d M' => isB d fun b => q b M'
theorem isB_run {F : Hp} {K : PySem.W.Frag} {d : D} {v : V} {k : Bool → Prop} (r : Rp K F d v) (h : isB d k) : ∃ b, v = .bl b ∧ k b := by
  unfold isB at h
  split at h
  · exact ⟨_, r, h⟩
  · exact h.elim
theorem tst_run {t : TE} {p : PTE} (h : ∀ σ H Q, real X.K W p σ H Q → t σ H Q) {σ : L2.St} {H : Hp} {Q : Bool → Hp → Prop} (hh : realT X.K W (dTst p) σ H Q) : tTest t σ H Q := by
  obtain ⟨g, ρ, M, F, O, q, w, A, p, hw, k⟩ := hh
  refine h σ H _ ⟨g, ρ, M, F, O, _, w, A, p, hw, fun v H1 F1 O1 M1 d A1 s1 r1 q1 => ?_⟩
  obtain ⟨b, e, q2⟩ := isB_run r1 q1
  exact ⟨b, e, k b H1 F1 O1 M1 A1 s1 q2⟩
theorem dt_cmp {op : CmpOp} {r : R2} {f : F2} (ho : OpR X (compareOp op) r) (hf : OpF X.K r f) (ha : DO X W a pa) (hb : DO X W b pb) (hm : behindInMarks op b = false) : DT X W (.Compare a [op] [b] pos) (dTst (dOp f pa pb)) :=
  pt_imp (pt_cmpR ho ha hb hm) fun σ H Q h => tst_run (t := tOp r (realO X.K W pa) (realO X.K W pb)) (fun _ _ _ h => op_run hf h) h
theorem dt_val (h : DE X W e pa) (he : ∀ whole, isTrue e X.env whole = (do let v ← whole; standAt e.pos; holding [v] (truthy v)) := by intro _; rfl) : DT X W e (dTst pa) := pt_imp (pt_val h he) fun σ H Q hh => tst_run (t := real X.K W pa) (fun _ _ _ h => h) hh
def dChain (f f' : F2) (pa pb pc : PTE) : PTE := fun w ρ M q => pa w ρ M fun x M1 => pb w ρ M1 fun y M2 => f x y fun z => isB z fun k => if k = true then pc w ρ M2 fun u M3 => f' y u fun z => q z M3 else q (.bl false) M2
theorem chain_run {r r' : R2} {f f' : F2} (hf : OpF X.K r f) (hf' : OpF X.K r' f') {σ : L2.St} {H : Hp} {Q : VK} (h : real X.K W (dChain f f' pa pb pc) σ H Q) : tChain r r' (realO X.K W pa) (realO X.K W pb) (realO X.K W pc) σ H Q := by
  obtain ⟨g, ρ, M, F, O, q, w, A, p, hw, k⟩ := h
  refine ⟨g, ρ, M, F, O, _, w, A, p, hw, fun v H1 F1 O1 M1 d A1 s1 r1 q1 => ⟨g, ρ, M1, F1, O1, _, w, A1, q1, hw.mono s1, fun u H2 F2 O2 M2 e A2 s2 r2 q2 =>
    hf g σ H2 ρ M2 F2 O2 d e v u _ _ A2 (r1.mono s2) r2 q2 fun z w3 H3 F3 O3 A3 s3 r3 q3 => ?_⟩⟩
  obtain ⟨b, eb, q4⟩ := isB_run r3 q3
  refine ⟨b, eb, ?_⟩
  cases b with
  | true =>
    exact ⟨g, ρ, M2, F3, O3, _, w, A3, q4, hw.mono ((s1.trans s2).trans s3), fun u4 H4 F4 O4 M4 e4 A4 s4 r4 q5 =>
      hf' g σ H4 ρ M4 F4 O4 e e4 u u4 _ Q A4 (r2.mono (s3.trans s4)) r4 q5 fun z5 w5 H5 F5 O5 A5 s5 r5 q5 => k w5 H5 F5 O5 M4 z5 A5 ((((s1.trans s2).trans s3).trans s4).trans s5) r5 q5⟩
  | false => exact k (.bl false) H3 F3 O3 M2 (.bl false) A3 ((s1.trans s2).trans s3) rfl q4
theorem de_chain {op op' : CmpOp} {r r' : R2} {f f' : F2} (ho : OpR X (compareOp op) r) (hf : OpF X.K r f) (ho' : OpR X (compareOp op') r') (hf' : OpF X.K r' f') (ha : DO X W a pa) (hb : DO X W b pb) (hc : DO X W c pc)
    (hm : lastMarks [op, op'] [b, c] = false := by with_unfolding_all rfl) : DE X W (.Compare a [op, op'] [b, c] pos) (dChain f f' pa pb pc) := pe_imp (pe_chain ho ho' ha hb hc hm) fun σ H Q h => chain_run hf hf' h
theorem dt_chain {op op' : CmpOp} {r r' : R2} {f f' : F2} (ho : OpR X (compareOp op) r) (hf : OpF X.K r f) (ho' : OpR X (compareOp op') r') (hf' : OpF X.K r' f') (ha : DO X W a pa) (hb : DO X W b pb) (hc : DO X W c pc)
    (hm : lastMarks [op, op'] [b, c] = false := by with_unfolding_all rfl) : DT X W (.Compare a [op, op'] [b, c] pos) (dTst (dChain f f' pa pb pc)) := pt_imp (pt_chain ho ho' ha hb hc hm) fun σ H Q h => tst_run (t := tChain r r' (realO X.K W pa) (realO X.K W pb) (realO X.K W pc)) (fun _ _ _ h => chain_run hf hf' h) h
end
end Px
set_option Elab.async false
set_option linter.all false
set_option maxRecDepth 100000
namespace Px
open PySem PySem.Spec PyProof.Rows L2
def fAdd : F2
  | .int i, .int j, k => k (.int (i + j))
  | .lst a, .lst b, k => a.length + b.length ≤ 1000000 ∧ k (.lst (a ++ b))
  | .tup a, .tup b, k => a.length + b.length ≤ 1000000 ∧ k (.tup (a ++ b))
  | .str a, .str b, k => a.length + b.length ≤ 1000000 ∧ k (.str (a ++ b))
  | _, _, _ => False
def fSub : F2
  | .int i, .int j, k => k (.int (i - j))
  | _, _, _ => False
def fMul : F2
  | .int i, .int j, k => CMulX i j ∧ k (.int (i * j))
  | .lst a, .int n, k => -1000000 ≤ n ∧ n ≤ 1000000 ∧ a.length * n.toNat ≤ 1000000 ∧ k (.lst (List.replicate n.toNat a).flatten)
  | _, _, _ => False
def fDiv : F2
  | .int i, .int j, k => CDivW i j ∧ k (.int (i / j))
  | _, _, _ => False
def fMod : F2
  | .int i, .int j, k => 0 < j ∧ k (.int (i % j))
  | _, _, _ => False
def fPow : F2
  | .int i, .int j, k => CPow i j ∧ k (.int (i ^ j.toNat))
  | _, _, _ => False
def fCmp (p : Int → Int → Bool) : F2
  | .int i, .int j, k => k (.bl (p i j))
  | _, _, _ => False
abbrev fLt : F2 := fCmp fun i j => decide (i < j)
abbrev fLe : F2 := fCmp fun i j => decide (i ≤ j)
abbrev fGt : F2 := fCmp fun i j => decide (j < i)
abbrev fGe : F2 := fCmp fun i j => decide (j ≤ i)
theorem line_big {n : Nat} (h : n ≤ 1000000) : n ≤ sizeLine := Nat.le_trans h (by decide)
section
variable {X : Cx} {K : PySem.W.Frag}
theorem RpL.flat {F : Hp} {ds : List D} {xs : List V} (h : RpL K F ds xs) : ∀ n : Nat, RpL K F (List.replicate n ds).flatten (List.replicate n xs).flatten
  | 0 => rfl
  | n + 1 => by rw [List.replicate_succ, List.replicate_succ, List.flatten_cons, List.flatten_cons]; exact h.app (RpL.flat h n)
theorem OpF.new {g : Gh} {σ : L2.St} {H : Hp} {ρ : Rho} {M : Mm} {F : Hp} {O : Own} {Q : VK} {o : HO} {d : D} {k : D → Prop} (A : Ab K g σ H ρ M F O) (c : ∀ z w H' F' O', Ab K g σ H' ρ M F' O' → Same F F' → Rp K F' z w → k z → Q w H')
    (hk : k d) (hr : ∀ p, (upd F p o) p = some o → Same F (upd F p o) → Rp K (upd F p o) d (.ref p)) : ∀ p, H p = none → Q (.ref p) (upd H p o) := fun p hp =>
  have s := same_new (o := o) (A.f0 hp)
  c d (.ref p) _ _ _ (A.lay hp) s (hr p upd_same s) hk
theorem opf_add : OpF K (fun x y H Q => rI0 (fun i j => .int (i + j)) x y H Q ∨ rCat x y H Q ∨ rCatA K x y H Q ∨ ∃ i j, x = .str i ∧ y = .str j ∧ i.length + j.length ≤ sizeLine ∧ Q (.str (i ++ j)) H) fAdd := by
  intro g σ H ρ M F O x y v u k Q A rx ry h c
  unfold fAdd at h
  split at h
  · rename_i i j
    exact .inl ⟨i, j, rx.int, ry.int, c (.int (i + j)) _ H F O A (Same.refl F) rfl h⟩
  · rename_i a b
    obtain ⟨p, xs, e1, h1, r1⟩ := rx.lst A
    obtain ⟨q, ys, e2, h2, r2⟩ := ry.lst A
    obtain ⟨hz, hk⟩ := h
    exact .inr (.inl ⟨p, q, xs, ys, e1, e2, h1, h2, by rw [← r1.len, ← r2.len]; exact line_big hz, OpF.new A c hk fun p e s => ⟨p, _, rfl, e, (RpL.mono s _ _ r1).app (RpL.mono s _ _ r2)⟩⟩)
  · rename_i a b
    obtain ⟨p, xs, e1, h1, r1⟩ := rx.tupF
    obtain ⟨q, ys, e2, h2, r2⟩ := ry.tupF
    obtain ⟨hz, hk⟩ := h
    refine .inr (.inr (.inl ⟨p, q, xs, ys, e1, e2, same_t A.sub h1, same_t A.sub h2, by rw [← r1.len, ← r2.len]; exact line_big hz, fun e => ?_, fun _ e => ?_, fun _ _ => ?_⟩))
    · subst e
      have ea : a = [] := List.length_eq_zero_iff.mp r1.len
      subst ea
      exact c (.tup b) _ H F O A (Same.refl F) ⟨q, ys, rfl, h2, r2⟩ hk
    · subst e
      have eb : b = [] := List.length_eq_zero_iff.mp r2.len
      subst eb
      rw [List.append_nil] at hk
      exact c (.tup a) _ H F O A (Same.refl F) ⟨p, xs, rfl, h1, r1⟩ hk
    · exact OpF.new A c hk fun p e s => ⟨p, _, rfl, .inl (.inl e), (RpL.mono s _ _ r1).app (RpL.mono s _ _ r2)⟩
  · rename_i a b
    obtain ⟨hz, hk⟩ := h
    exact .inr (.inr (.inr ⟨a, b, rx.str, ry.str, line_big hz, c (.str (a ++ b)) _ H F O A (Same.refl F) rfl hk⟩))
  · exact h.elim
theorem o_add : OpR X (binaryOp .Add) (fun x y H Q => rI0 (fun i j => .int (i + j)) x y H Q ∨ rCat x y H Q ∨ rCatA X.K x y H Q ∨ ∃ i j, x = .str i ∧ y = .str j ∧ i.length + j.length ≤ sizeLine ∧ Q (.str (i ++ j)) H) :=
  op_add.or (op_cat.or (op_catA.or op_add_str))
theorem opf_i {C : Int → Int → Prop} {h : Int → Int → V} {h' : Int → Int → D} {f : F2} (hh : ∀ F i j, Rp K F (h' i j) (h i j)) (hf : ∀ x y k, f x y k → ∃ i j, x = .int i ∧ y = .int j ∧ C i j ∧ k (h' i j)) : OpF K (rI C h) f := by
  intro g σ H ρ M F O x y v u k Q A rx ry h c
  obtain ⟨i, j, rfl, rfl, hc, hk⟩ := hf x y k h
  exact ⟨i, j, rx.int, ry.int, hc, c _ _ H F O A (Same.refl F) (hh F i j) hk⟩
theorem opf_i0 {h : Int → Int → V} {h' : Int → Int → D} {f : F2} (hh : ∀ F i j, Rp K F (h' i j) (h i j)) (hf : ∀ x y k, f x y k → ∃ i j, x = .int i ∧ y = .int j ∧ k (h' i j)) : OpF K (rI0 h) f := by
  intro g σ H ρ M F O x y v u k Q A rx ry h c
  obtain ⟨i, j, rfl, rfl, hk⟩ := hf x y k h
  exact ⟨i, j, rx.int, ry.int, c _ _ H F O A (Same.refl F) (hh F i j) hk⟩
theorem opf_sub : OpF K (rI0 fun i j => .int (i - j)) fSub := opf_i0 (h' := fun i j => .int (i - j)) (fun _ _ _ => rfl) fun x y k h => by
  unfold fSub at h
  split at h
  · exact ⟨_, _, rfl, rfl, h⟩
  · exact h.elim
theorem opf_div : OpF K (rI CDivW fun i j => .int (i / j)) fDiv := opf_i (h' := fun i j => .int (i / j)) (fun _ _ _ => rfl) fun x y k h => by
  unfold fDiv at h
  split at h
  · exact ⟨_, _, rfl, rfl, h⟩
  · exact h.elim
theorem opf_mod : OpF K (rI (fun _ j => 0 < j) fun i j => .int (i % j)) fMod := opf_i (h' := fun i j => .int (i % j)) (fun _ _ _ => rfl) fun x y k h => by
  unfold fMod at h
  split at h
  · exact ⟨_, _, rfl, rfl, h⟩
  · exact h.elim
theorem opf_pow : OpF K (rI CPow fun i j => .int (i ^ j.toNat)) fPow := opf_i (h' := fun i j => .int (i ^ j.toNat)) (fun _ _ _ => rfl) fun x y k h => by
  unfold fPow at h
  split at h
  · exact ⟨_, _, rfl, rfl, h⟩
  · exact h.elim
theorem opf_cmp {p : Int → Int → Bool} : OpF K (rI0 fun i j => .bl (p i j)) (fCmp p) := opf_i0 (h' := fun i j => .bl (p i j)) (fun _ _ _ => rfl) fun x y k h => by
  unfold fCmp at h
  split at h
  · exact ⟨_, _, rfl, rfl, h⟩
  · exact h.elim
theorem opf_mul : OpF K (fun x y H Q => rI CMulX (fun i j => .int (i * j)) x y H Q ∨ rRep x y H Q) fMul := by
  intro g σ H ρ M F O x y v u k Q A rx ry h c
  unfold fMul at h
  split at h
  · rename_i i j
    exact .inl ⟨i, j, rx.int, ry.int, h.1, c (.int (i * j)) _ H F O A (Same.refl F) rfl h.2⟩
  · rename_i a n
    obtain ⟨p, xs, e1, h1, r1⟩ := rx.lst A
    obtain ⟨z1, z2, z3, hk⟩ := h
    exact .inr ⟨p, n, xs, e1, ry.int, h1, by omega, by omega, by rw [← r1.len]; exact line_big z3, OpF.new A c hk fun p e s => ⟨p, _, rfl, e, (RpL.mono s _ _ r1).flat _⟩⟩
  · exact h.elim
theorem o_mul : OpR X (binaryOp .Mult) (fun x y H Q => rI CMulX (fun i j => .int (i * j)) x y H Q ∨ rRep x y H Q) := op_mulX.or op_rep
mutual
def toPy : D → PyData
  | .non => .none
  | .bl b => .bool b
  | .int i => .int i
  | .str s => .str s
  | .tup l => .tuple (toPyL l)
  | .lst l => .list (toPyL l)
  | .dic _ _ => .none
  | .obj _ _ _ => .none
  | .raw _ => .none
  | .scr _ => .none
  | .clo _ _ _ _ _ => .none
  | .fnc _ _ _ _ => .none
  | .exv _ _ _ _ _ => .none
def toPyL : List D → List PyData
  | [] => []
  | d :: ds => toPy d :: toPyL ds
end
def okD : Nat → D → Bool
  | _, .non => true
  | _, .bl _ => true
  | _, .int _ => true
  | _, .str s => PyData.strOk s
  | n + 1, .tup l => l.all (okD n)
  | n + 1, .lst l => l.all (okD n)
  | _, _ => false
def okP : Nat → D → Prop
  | _, .non => True
  | _, .bl _ => True
  | _, .int _ => True
  | _, .str s => PyData.strOk s = true
  | n + 1, .tup l => ∀ d ∈ l, okP n d
  | n + 1, .lst l => ∀ d ∈ l, okP n d
  | _, _ => False
theorem okP_of : ∀ (n : Nat) (d : D), okD n d = true → okP n d := by
  intro n
  induction n with
  | zero =>
    intro d h
    cases d <;> first | trivial | exact h | (cases h)
  | succ n ih =>
    intro d h
    cases d with
    | tup l => exact fun d hd => ih d (List.all_eq_true.mp (show l.all (okD n) = true from h) d hd)
    | lst l => exact fun d hd => ih d (List.all_eq_true.mp (show l.all (okD n) = true from h) d hd)
    | _ => first | trivial | exact h | (cases h)
theorem lay_all : ∀ {l : List D}, (∀ d ∈ l, (toPy d).canLay0 = true) → PyData.canLayAll0 (toPyL l) = true
  | [], _ => rfl
  | d :: ds, h => by
    show ((toPy d).canLay0 && PyData.canLayAll0 (toPyL ds)) = true
    rw [h d List.mem_cons_self, lay_all fun e he => h e (List.mem_cons_of_mem _ he)]
    rfl
theorem deep_all {n : Nat} : ∀ {l : List D}, (∀ d ∈ l, (toPy d).depth ≤ n) → PyData.depthAll (toPyL l) ≤ n
  | [], _ => Nat.zero_le _
  | d :: ds, h => by
    show max (toPy d).depth (PyData.depthAll (toPyL ds)) ≤ n
    exact Nat.max_le.mpr ⟨h d List.mem_cons_self, deep_all fun e he => h e (List.mem_cons_of_mem _ he)⟩
theorem py_ok : ∀ (n : Nat) (d : D), okP n d → (toPy d).canLay0 = true ∧ (toPy d).depth ≤ n := by
  intro n
  induction n with
  | zero =>
    intro d h
    cases d <;> first | exact ⟨rfl, Nat.zero_le _⟩ | exact ⟨h, Nat.zero_le _⟩ | exact h.elim
  | succ n ih =>
    intro d h
    cases d with
    | tup l => exact ⟨lay_all fun d hd => (ih d (h d hd)).1, Nat.succ_le_succ (deep_all fun d hd => (ih d (h d hd)).2)⟩
    | lst l => exact ⟨lay_all fun d hd => (ih d (h d hd)).1, Nat.succ_le_succ (deep_all fun d hd => (ih d (h d hd)).2)⟩
    | _ => first | exact ⟨rfl, Nat.zero_le _⟩ | exact ⟨h, Nat.zero_le _⟩ | exact h.elim
theorem dp_all {F : Hp} {n : Nat} (ih : ∀ d v, okP n d → Rp K F d v → Dp K F v (toPy d)) : ∀ {l : List D} {xs : List V}, (∀ d ∈ l, okP n d) → RpL K F l xs → DpAll K F xs (toPyL l)
  | [], _, _, r => by rw [show _ = [] from r]; exact .nil
  | d :: ds, _, h, ⟨x, r, e, q, t⟩ => by
    rw [e]
    exact .cons (ih d x (h d List.mem_cons_self) q) (dp_all ih (fun e he => h e (List.mem_cons_of_mem _ he)) t)
theorem dp_of {F : Hp} : ∀ (n : Nat) (d : D) (v : V), okP n d → Rp K F d v → Dp K F v (toPy d) := by
  intro n
  induction n with
  | zero =>
    intro d v h r
    cases d <;> first | (rw [show v = _ from r]; constructor) | exact h.elim
  | succ n ih =>
    intro d v h r
    cases d with
    | tup l =>
      obtain ⟨a, xs, e, s, q⟩ := r
      rw [e]
      exact .tup s (dp_all ih h q)
    | lst l =>
      obtain ⟨a, xs, e, s, q⟩ := r
      rw [e]
      exact .lst (.inl (.inl s)) (dp_all ih h q)
    | _ => first | (rw [show v = _ from r]; constructor) | exact h.elim
mutual
theorem Dp.up {F H : Hp} (s : Same F H) : ∀ (e : PyData) (v : V), Dp K F v e → Dp K H v e
  | .none, _, h => by cases h; exact .non
  | .bool b, _, h => by cases h; exact .bl b
  | .int i, _, h => by cases h; exact .int i
  | .str x, _, h => by cases h; exact .str x
  | .list ds, _, h => by
    cases h with
    | lst q t => exact .lst (same_l s q) (DpAll.up s ds _ t)
  | .tuple ds, _, h => by
    cases h with
    | tup q t => exact .tup (same_t s q) (DpAll.up s ds _ t)
  | .dict _, _, h => by cases h
theorem DpAll.up {F H : Hp} (s : Same F H) : ∀ (es : List PyData) (vs : List V), DpAll K F vs es → DpAll K H vs es
  | [], _, h => by cases h; exact .nil
  | e :: es, _, h => by
    cases h with
    | cons q t => exact .cons (Dp.up s e _ q) (DpAll.up s es _ t)
end
theorem vw_dp {g : Gh} {σ : L2.St} {H : Hp} {ρ : Rho} {M : Mm} {F : Hp} {O : Own} {d : D} {v : V} {n : Nat} (A : Ab K g σ H ρ M F O) (h : okP n d) (r : Vw K σ ρ F d v) : Dp K H v (toPy d) := by
  rcases r with r | ⟨i, l, p, h1, h2, h3, h4⟩
  · exact Dp.up A.sub _ _ (dp_of n d v h r)
  · subst h4
    obtain ⟨q, xs, e1, e2, e3⟩ := Vw.lst A (.inr ⟨i, l, p, h1, h2, h3, rfl⟩)
    rw [e1]
    cases n with
    | zero => exact h.elim
    | succ n => exact .lst (.inl (.inl e2)) (DpAll.up A.sub _ _ (dp_all (fun d v => dp_of n d v) h e3))
theorem shaped_ok {n : Nat} {d : D} (h : okP n d) (hn : n ≤ 64) : SeqAt.shaped (toPy d) = true := by
  obtain ⟨h1, h2⟩ := py_ok n d h
  unfold SeqAt.shaped
  rw [h1, decide_eq_true (Nat.le_trans h2 hn)]
  rfl
def eqD (x y : D) : Bool := PyData.eqv (toPy x) (toPy y)
def fEq : F2 := fun x y k => (okD 50 x && okD 50 y) = true ∧ k (.bl (eqD x y))
def fNe : F2 := fun x y k => (okD 50 x && okD 50 y) = true ∧ k (.bl (!eqD x y))
theorem opf_eq : OpF K (rEqD K) fEq := by
  intro g σ H ρ M F O x y v u k Q A rx ry h c
  obtain ⟨h1, hk⟩ := h
  obtain ⟨hx, hy⟩ := Bool.and_eq_true_iff.mp h1
  have px := okP_of _ _ hx
  have py := okP_of _ _ hy
  exact ⟨_, _, vw_dp A px rx, vw_dp A py ry, shaped_ok px (by decide), shaped_ok py (by decide), c (.bl (eqD x y)) _ H F O A (Same.refl F) rfl hk⟩
theorem opf_ne : OpF K (rNeD K) fNe := by
  intro g σ H ρ M F O x y v u k Q A rx ry h c
  obtain ⟨h1, hk⟩ := h
  obtain ⟨hx, hy⟩ := Bool.and_eq_true_iff.mp h1
  have px := okP_of _ _ hx
  have py := okP_of _ _ hy
  exact ⟨_, _, vw_dp A px rx, vw_dp A py ry, shaped_ok px (by decide), shaped_ok py (by decide), c (.bl (!eqD x y)) _ H F O A (Same.refl F) rfl hk⟩
def isN : D → Bool
  | .non => true
  | _ => false
theorem rp_isN {F : Hp} {d : D} {v : V} (h : match d with | .raw _ => False | _ => True) (r : Rp K F d v) : decide (v = .non) = isN d := by
  cases d with
  | non => rw [show v = .non from r]; rfl
  | bl b => rw [show v = .bl b from r]; rfl
  | int b => rw [show v = .int b from r]; rfl
  | str b => rw [show v = .str b from r]; rfl
  | tup l => obtain ⟨a, xs, e, _⟩ := r; rw [e]; rfl
  | lst l => obtain ⟨a, xs, e, _⟩ := r; rw [e]; rfl
  | dic ks l => obtain ⟨a, xs, e, _⟩ := r; rw [e]; rfl
  | obj C ns l => obtain ⟨a, dx, xs, e, _⟩ := r; rw [e]; rfl
  | raw w => exact h.elim
  | scr l => obtain ⟨a, e, _⟩ := r; rw [e]; rfl
  | clo _ _ _ _ _ => rw [r.1]; rfl
  | fnc _ _ _ _ => rw [r.1]; rfl
  | exv _ _ _ _ _ => rw [r.1]; rfl
def noRaw : D → Bool
  | .raw _ => false
  | _ => true
def fIs : F2 := fun x y k => match y with | .non => noRaw x = true ∧ k (.bl (isN x)) | _ => False
def fIsNot : F2 := fun x y k => match y with | .non => noRaw x = true ∧ k (.bl (!isN x)) | _ => False
theorem vw_isN {σ : L2.St} {ρ : Rho} {F : Hp} {d : D} {v : V} (h : noRaw d = true) (r : Vw K σ ρ F d v) : decide (v = .non) = isN d := by
  rcases r with r | ⟨i, l, p, h1, h2, h3, h4⟩
  · exact rp_isN (by cases d <;> first | trivial | (cases h)) r
  · subst h4; rw [h3]; rfl
theorem opf_is : OpF K (fun x y H Q => y = .non ∧ Q (.bl (decide (x = .non))) H) fIs := by
  intro g σ H ρ M F O x y v u k Q A rx ry h c
  unfold fIs at h
  split at h
  · exact ⟨ry.non, by rw [vw_isN h.1 rx]; exact c (.bl (isN x)) _ H F O A (Same.refl F) rfl h.2⟩
  · exact h.elim
theorem opf_isnot : OpF K (fun x y H Q => y = .non ∧ Q (.bl (!decide (x = .non))) H) fIsNot := by
  intro g σ H ρ M F O x y v u k Q A rx ry h c
  unfold fIsNot at h
  split at h
  · exact ⟨ry.non, by rw [vw_isN h.1 rx]; exact c (.bl (!isN x)) _ H F O A (Same.refl F) rfl h.2⟩
  · exact h.elim
end
section
variable {X : Cx} {W : WX} {a b c e i : Expr} {es rest : List Expr} {pa pb pc : PTE} {ta tb tc : PTT} {pl : PTA} {pos : Pos}
theorem de_add (ha : DO X W a pa) (hb : DO X W b pb) : DE X W (.BinOp a .Add b pos) (dOp fAdd pa pb) := de_op o_add opf_add ha hb
theorem de_sub (ha : DO X W a pa) (hb : DO X W b pb) : DE X W (.BinOp a .Sub b pos) (dOp fSub pa pb) := de_op op_sub opf_sub ha hb
theorem de_mul (ha : DO X W a pa) (hb : DO X W b pb) : DE X W (.BinOp a .Mult b pos) (dOp fMul pa pb) := de_op o_mul opf_mul ha hb
theorem de_div (ha : DO X W a pa) (hb : DO X W b pb) : DE X W (.BinOp a .FloorDiv b pos) (dOp fDiv pa pb) := de_op op_fdivW opf_div ha hb
theorem de_mod (ha : DO X W a pa) (hb : DO X W b pb) : DE X W (.BinOp a .Mod b pos) (dOp fMod pa pb) := de_op op_mod opf_mod ha hb
theorem de_pow (ha : DO X W a pa) (hb : DO X W b pb) : DE X W (.BinOp a .Pow b pos) (dOp fPow pa pb) := de_op op_pow opf_pow ha hb
theorem de_eq (hu : X.A.units + 64 < cLine) (ha : DO X W a pa) (hb : DO X W b pb) : DE X W (.Compare a [.Eq] [b] pos) (dOp fEq pa pb) := de_cmp (op_eqD hu) opf_eq ha hb (nomark _)
theorem de_ne (hu : X.A.units + 64 < cLine) (ha : DO X W a pa) (hb : DO X W b pb) : DE X W (.Compare a [.NotEq] [b] pos) (dOp fNe pa pb) := de_cmp (op_neD hu) opf_ne ha hb (nomark _)
theorem de_is (ha : DO X W a pa) (hb : DO X W b pb) : DE X W (.Compare a [.Is] [b] pos) (dOp fIs pa pb) := de_cmp op_isN opf_is ha hb (nomark _)
theorem dt_lt (ha : DO X W a pa) (hb : DO X W b pb) : DT X W (.Compare a [.Lt] [b] pos) (dTst (dOp fLt pa pb)) := dt_cmp op_lt opf_cmp ha hb (nomark _)
theorem dt_le (ha : DO X W a pa) (hb : DO X W b pb) : DT X W (.Compare a [.LtE] [b] pos) (dTst (dOp fLe pa pb)) := dt_cmp op_le opf_cmp ha hb (nomark _)
theorem dt_gt (ha : DO X W a pa) (hb : DO X W b pb) : DT X W (.Compare a [.Gt] [b] pos) (dTst (dOp fGt pa pb)) := dt_cmp op_gt opf_cmp ha hb (nomark _)
theorem dt_ge (ha : DO X W a pa) (hb : DO X W b pb) : DT X W (.Compare a [.GtE] [b] pos) (dTst (dOp fGe pa pb)) := dt_cmp op_ge opf_cmp ha hb (nomark _)
theorem dt_eq (hu : X.A.units + 64 < cLine) (ha : DO X W a pa) (hb : DO X W b pb) : DT X W (.Compare a [.Eq] [b] pos) (dTst (dOp fEq pa pb)) := dt_cmp (op_eqD hu) opf_eq ha hb (nomark _)
theorem dt_ne (hu : X.A.units + 64 < cLine) (ha : DO X W a pa) (hb : DO X W b pb) : DT X W (.Compare a [.NotEq] [b] pos) (dTst (dOp fNe pa pb)) := dt_cmp (op_neD hu) opf_ne ha hb (nomark _)
theorem dt_is (ha : DO X W a pa) (hb : DO X W b pb) : DT X W (.Compare a [.Is] [b] pos) (dTst (dOp fIs pa pb)) := dt_cmp op_isN opf_is ha hb (nomark _)
theorem dt_isnot (ha : DO X W a pa) (hb : DO X W b pb) : DT X W (.Compare a [.IsNot] [b] pos) (dTst (dOp fIsNot pa pb)) := dt_cmp op_notN opf_isnot ha hb (nomark _)
theorem de_ch {op op' : CmpOp} {p p' : Int → Int → Bool} (ho : OpR X (compareOp op) (rI0 fun i j => .bl (p i j))) (ho' : OpR X (compareOp op') (rI0 fun i j => .bl (p' i j))) (ha : DO X W a pa) (hb : DO X W b pb) (hc : DO X W c pc)
    (hm : lastMarks [op, op'] [b, c] = false := by with_unfolding_all rfl) : DE X W (.Compare a [op, op'] [b, c] pos) (dChain (fCmp p) (fCmp p') pa pb pc) := de_chain ho opf_cmp ho' opf_cmp ha hb hc hm
theorem dt_ch {op op' : CmpOp} {p p' : Int → Int → Bool} (ho : OpR X (compareOp op) (rI0 fun i j => .bl (p i j))) (ho' : OpR X (compareOp op') (rI0 fun i j => .bl (p' i j))) (ha : DO X W a pa) (hb : DO X W b pb) (hc : DO X W c pc)
    (hm : lastMarks [op, op'] [b, c] = false := by with_unfolding_all rfl) : DT X W (.Compare a [op, op'] [b, c] pos) (dTst (dChain (fCmp p) (fCmp p') pa pb pc)) := dt_chain ho opf_cmp ho' opf_cmp ha hb hc hm
def dAnd (ta tb : PTT) : PTT := fun w ρ M q => ta w ρ M fun c M1 => if c = true then tb w ρ M1 q else q false M1
def dOr (ta tb : PTT) : PTT := fun w ρ M q => ta w ρ M fun c M1 => if c = true then q true M1 else tb w ρ M1 q
def dNot (ta : PTT) : PTT := fun w ρ M q => ta w ρ M fun c M1 => q (!c) M1
abbrev DW (X : Cx) (W : WX) (e : Expr) (p : PTT) : Prop := L2.PW X e (realT X.K W p)
theorem DW.dt (h : DW X W e ta) : DT X W e ta := L2.PW.pt h
theorem dw_and1 (ha : DT X W a ta) : DW X W (.BoolOp .And [a] pos) ta := pw_and1 ha
theorem dw_or1 (ha : DT X W a ta) : DW X W (.BoolOp .Or [a] pos) ta := pw_or1 ha
theorem dw_and (ha : DT X W a ta) (hb : DW X W (.BoolOp .And (b :: rest) pos) tb) : DW X W (.BoolOp .And (a :: b :: rest) pos) (dAnd ta tb) := pw_imp (pw_and ha hb) fun σ H Q ⟨g, ρ, M, F, O, q, w, A, p, hw, k⟩ =>
  ⟨g, ρ, M, F, O, _, w, A, p, hw, fun b H1 F1 O1 M1 A1 s1 q1 => by
    cases b with
    | true => exact ⟨g, ρ, M1, F1, O1, q, w, A1, q1, hw.mono s1, fun b H2 F2 O2 M2 A2 s2 q2 => k b H2 F2 O2 M2 A2 (s1.trans s2) q2⟩
    | false => exact k false H1 F1 O1 M1 A1 s1 q1⟩
theorem dw_or (ha : DT X W a ta) (hb : DW X W (.BoolOp .Or (b :: rest) pos) tb) : DW X W (.BoolOp .Or (a :: b :: rest) pos) (dOr ta tb) := pw_imp (pw_or ha hb) fun σ H Q ⟨g, ρ, M, F, O, q, w, A, p, hw, k⟩ =>
  ⟨g, ρ, M, F, O, _, w, A, p, hw, fun b H1 F1 O1 M1 A1 s1 q1 => by
    cases b with
    | false => exact ⟨g, ρ, M1, F1, O1, q, w, A1, q1, hw.mono s1, fun b H2 F2 O2 M2 A2 s2 q2 => k b H2 F2 O2 M2 A2 (s1.trans s2) q2⟩
    | true => exact k true H1 F1 O1 M1 A1 s1 q1⟩
theorem dt_not (ha : DT X W a ta) : DT X W (.UnaryOp .Not a pos) (dNot ta) := pt_imp (pt_not ha) fun σ H Q ⟨g, ρ, M, F, O, q, w, A, p, hw, k⟩ =>
  ⟨g, ρ, M, F, O, _, w, A, p, hw, fun b H1 F1 O1 M1 A1 s1 q1 => k (!b) H1 F1 O1 M1 A1 s1 q1⟩
def dAndV (pa pb : PTE) : PTE := fun w ρ M q => pa w ρ M fun d M1 => isB d fun c => if c = true then pb w ρ M1 q else q (.bl false) M1
def dOrV (pa pb : PTE) : PTE := fun w ρ M q => pa w ρ M fun d M1 => isB d fun c => if c = true then q (.bl true) M1 else pb w ρ M1 q
def dNotV (pa : PTE) : PTE := fun w ρ M q => pa w ρ M fun d M1 => isB d fun c => q (.bl (!c)) M1
theorem de_bone {op : BoolOp} (h : DE X W a pa) : DE X W (.BoolOp op [a] pos) pa := pe_one h
theorem de_and (ha : DE X W a pa) (hb : DE X W (.BoolOp .And (b :: rest) pos) pb) : DE X W (.BoolOp .And (a :: b :: rest) pos) (dAndV pa pb) := pe_imp (pe_and ha hb) fun σ H Q ⟨g, ρ, M, F, O, q, w, A, p, hw, k⟩ =>
  ⟨g, ρ, M, F, O, _, w, A, p, hw, fun v H1 F1 O1 M1 d A1 s1 r1 q1 => by
    obtain ⟨b, eb, q2⟩ := isB_run r1 q1
    refine ⟨b, eb, ?_⟩
    cases b with
    | true => exact ⟨g, ρ, M1, F1, O1, q, w, A1, q2, hw.mono s1, fun v H2 F2 O2 M2 d A2 s2 r2 q2 => k v H2 F2 O2 M2 d A2 (s1.trans s2) r2 q2⟩
    | false => exact k (.bl false) H1 F1 O1 M1 (.bl false) A1 s1 rfl q2⟩
theorem de_not (ha : DE X W a pa) : DE X W (.UnaryOp .Not a pos) (dNotV pa) := pe_imp (pe_not ha) fun σ H Q ⟨g, ρ, M, F, O, q, w, A, p, hw, k⟩ =>
  ⟨g, ρ, M, F, O, _, w, A, p, hw, fun v H1 F1 O1 M1 d A1 s1 r1 q1 => by
    obtain ⟨b, eb, q2⟩ := isB_run r1 q1
    exact ⟨b, eb, k (.bl (!b)) H1 F1 O1 M1 (.bl (!b)) A1 s1 rfl q2⟩⟩
def dIf (tc : PTT) (pa pb : PTE) : PTE := fun w ρ M q => tc w ρ M fun c M1 => if c = true then pa w ρ M1 q else pb w ρ M1 q
theorem de_ife (hc : DT X W c tc) (ha : DE X W a pa) (hb : DE X W b pb) : DE X W (.IfExp c a b pos) (dIf tc pa pb) := pe_imp (pe_ifExp hc ha hb) fun σ H Q ⟨g, ρ, M, F, O, q, w, A, p, hw, k⟩ =>
  ⟨g, ρ, M, F, O, _, w, A, p, hw, fun b H1 F1 O1 M1 A1 s1 q1 => by
    cases b with
    | true => exact ⟨g, ρ, M1, F1, O1, q, w, A1, q1, hw.mono s1, fun v H2 F2 O2 M2 d A2 s2 r2 q2 => k v H2 F2 O2 M2 d A2 (s1.trans s2) r2 q2⟩
    | false => exact ⟨g, ρ, M1, F1, O1, q, w, A1, q1, hw.mono s1, fun v H2 F2 O2 M2 d A2 s2 r2 q2 => k v H2 F2 O2 M2 d A2 (s1.trans s2) r2 q2⟩⟩
def dNeg (pa : PTE) : PTE := fun w ρ M q => pa w ρ M fun d M1 => match d with | .int i => q (.int (-i)) M1 | _ => False
theorem de_neg (ha : DO X W a pa) : DE X W (.UnaryOp .USub a pos) (dNeg pa) := pe_imp (pe_un un_neg ha) fun σ H Q ⟨g, ρ, M, F, O, q, w, A, p, hw, k⟩ =>
  ⟨g, ρ, M, F, O, _, w, A, p, hw, fun v H1 F1 O1 M1 d A1 s1 r1 q1 => by
    cases d with
    | int i => exact ⟨i, r1.int, k (.int (-i)) H1 F1 O1 M1 (.int (-i)) A1 s1 rfl q1⟩
    | _ => exact (show False from q1).elim⟩
def dNil : PTA := fun _ _ M q => q [] M
def dCons (pa : PTE) (pl : PTA) : PTA := fun w ρ M q => pa w ρ M fun d M1 => pl w ρ M1 fun ds M2 => q (d :: ds) M2
theorem da_nil : DA X W [] dNil := pa_imp pa_nil fun σ H Q ⟨g, ρ, M, F, O, q, w, A, p, hw, k⟩ => k [] H F O M [] A (Same.refl F) rfl p
theorem da_cons (ha : DE X W e pa) (hr : DA X W es pl) (hs : starEach (e :: es) X.env = (false, eval e X.env) :: starEach es X.env := by rfl) : DA X W (e :: es) (dCons pa pl) := pa_imp (pa_cons ha hr hs) fun σ H Q ⟨g, ρ, M, F, O, q, w, A, p, hw, k⟩ =>
  ⟨g, ρ, M, F, O, _, w, A, p, hw, fun v H1 F1 O1 M1 d A1 s1 r1 q1 => ⟨g, ρ, M1, F1, O1, _, w, A1, q1, hw.mono s1, fun vs H2 F2 O2 M2 ds A2 s2 r2 q2 => k (v :: vs) H2 F2 O2 M2 (d :: ds) A2 (s1.trans s2) ⟨v, vs, rfl, Rp.mono s2 _ _ r1, r2⟩ q2⟩⟩
def dTup (pl : PTA) : PTE := fun w ρ M q => pl w ρ M fun ds M1 => ds.length ≤ 1000000 ∧ q (.tup ds) M1
theorem de_tup {x1 : Nat} (h : DA X W es pl) : DE X W (.Tuple es x1 pos) (dTup pl) := pe_imp (pe_tup h) fun σ H Q ⟨g, ρ, M, F, O, q, w, A, p, hw, k⟩ =>
  ⟨g, ρ, M, F, O, _, w, A, p, hw, fun vs H1 F1 O1 M1 ds A1 s1 r1 ⟨z, q1⟩ => ⟨by rw [← r1.len]; exact line_big z, fun p hp =>
    have s := same_new (o := .tup vs) (A1.f0 hp)
    k (.ref p) _ _ O1 M1 (.tup ds) (A1.lay hp) (s1.trans s) ⟨p, vs, rfl, .inl (.inl upd_same), RpL.mono s _ _ r1⟩ q1⟩⟩
def dLst (pl : PTA) : PTA := fun w ρ M q => pl w ρ M fun ds M1 => ds.length ≤ 1000000 ∧ q ds M1
theorem dl_lst (h : DA X W es pl) : DL X W (.List es pos) (dLst pl) := pe_imp (pe_lst h) fun σ H Q ⟨g, ρ, M, F, O, q, w, A, p, hw, k⟩ =>
  ⟨g, ρ, M, F, O, _, w, A, p, hw, fun vs H1 F1 O1 M1 ds A1 s1 r1 ⟨z, q1⟩ => ⟨by rw [← r1.len]; exact line_big z, fun p hp =>
    k p vs _ F1 O1 M1 ds (A1.laid hp) s1 upd_same r1 (A1.f0 hp) (A1.o0 hp) (A1.g0 hp) q1⟩⟩
def atD (l : List D) (i : Int) (k : D → Prop) : Prop := ∃ d, atI l i = some d ∧ k d
def fIx : F2
  | .lst l, .int i, k => atD l i k
  | .tup l, .int i, k => atD l i k
  | _, _, _ => False
theorem RpL.atI {K : PySem.W.Frag} {F : Hp} {ds : List D} {xs : List V} {i : Int} {d : D} (r : RpL K F ds xs) (h : L2.atI ds i = some d) : ∃ x, L2.atI xs i = some x ∧ Rp K F d x := by
  unfold L2.atI at h ⊢
  rw [← r.len]
  cases e : ixN ds.length i with
  | none => rw [e] at h; cases h
  | some j =>
    rw [e] at h
    exact r.get h
theorem opf_ix {K : PySem.W.Frag} : OpF K (rIx K) fIx := by
  intro g σ H ρ M F O x y v u k Q A rx ry h c
  unfold fIx at h
  split at h
  · rename_i l i
    obtain ⟨d, h1, h2⟩ := h
    obtain ⟨p, xs, e1, hp, r1⟩ := rx.lst A
    obtain ⟨z, h3, r3⟩ := r1.atI h1
    exact .inl ⟨p, xs, i, z, e1, ry.int, .inl (.inl hp), h3, c d z H F O A (Same.refl F) r3 h2⟩
  · rename_i l i
    obtain ⟨d, h1, h2⟩ := h
    obtain ⟨p, xs, e1, hp, r1⟩ := rx.tup A
    obtain ⟨z, h3, r3⟩ := r1.atI h1
    exact .inr (.inl ⟨p, xs, i, z, e1, ry.int, hp, h3, c d z H F O A (Same.refl F) r3 h2⟩)
  · exact h.elim
theorem de_ix (ha : DO X W a pa) (hb : DO X W i pb) (hs : PlainIx i := by exact fun _ _ => rfl) : DE X W (.Subscript a i pos) (dOp fIx pa pb) := pe_imp (pe_ix ix_seq ha hb hs) fun σ H Q h => op_run opf_ix h
end
end Px
set_option Elab.async false
set_option linter.all false
set_option maxRecDepth 100000
namespace Px
open PySem PySem.Spec PyProof.Rows L2
abbrev F1 := D → (D → Prop) → Prop
abbrev G1 := D → (List D → Prop) → Prop
def BF1 (K : PySem.W.Frag) (r : List V → Hp → VK → Prop) (f : F1) : Prop := ∀ g σ H ρ M F O x v (k : D → Prop) (Q : VK), Ab K g σ H ρ M F O → Vw K σ ρ F x v → f x k →
  (∀ z w H' F' O', Ab K g σ H' ρ M F' O' → Same F F' → Rp K F' z w → k z → Q w H') → r [v] H Q
def BG1 (K : PySem.W.Frag) (r : List V → Hp → VK → Prop) (f : G1) : Prop := ∀ g σ H ρ M F O x v (k : List D → Prop) (Q : VK), Ab K g σ H ρ M F O → Vw K σ ρ F x v → f x k →
  (∀ ds p xs, H p = none → RpL K F ds xs → k ds → Q (.ref p) (upd H p (.lst xs))) → r [v] H Q
def BF2 (K : PySem.W.Frag) (r : List V → Hp → VK → Prop) (f : F2) : Prop := ∀ g σ H ρ M F O x y v u (k : D → Prop) (Q : VK), Ab K g σ H ρ M F O → Vw K σ ρ F x v → Vw K σ ρ F y u → f x y k →
  (∀ z w H' F' O', Ab K g σ H' ρ M F' O' → Same F F' → Rp K F' z w → k z → Q w H') → r [v, u] H Q
def dB1 (f : F1) (pa : PTE) : PTE := fun w ρ M q => pa w ρ M fun x M1 => f x fun z => q z M1
def dG1 (f : G1) (pa : PTE) : PTA := fun w ρ M q => pa w ρ M fun x M1 => f x fun z => q z M1
section
variable {X : Cx} {W : WX} {a b : Expr} {pa pb : PTE} {pos p : Pos} {x : Str} {idn T : String} {r : List V → Hp → VK → Prop}
theorem b1_run {f : F1} (hf : BF1 X.K r f) {σ : L2.St} {H : Hp} {Q : VK} (h : real X.K W (dB1 f pa) σ H Q) : tCB r (tCons (realO X.K W pa) tNil) σ H Q := by
  obtain ⟨g, ρ, M, F, O, q, w, A, p, hw, k⟩ := h
  exact ⟨g, ρ, M, F, O, _, w, A, p, hw, fun v H1 F1 O1 M1 d A1 s1 r1 q1 => hf g σ H1 ρ M1 F1 O1 d v _ Q A1 r1 q1 fun z w2 H2 F2 O2 A2 s2 r2 q2 => k w2 H2 F2 O2 M1 z A2 (s1.trans s2) r2 q2⟩
theorem g1_run {f : G1} (hf : BG1 X.K r f) {σ : L2.St} {H : Hp} {Q : VK} (h : realL X.K W (dG1 f pa) σ H Q) : tCB r (tCons (realO X.K W pa) tNil) σ H Q := by
  obtain ⟨g, ρ, M, F, O, q, w, A, p, hw, k⟩ := h
  exact ⟨g, ρ, M, F, O, _, w, A, p, hw, fun v H1 F1 O1 M1 d A1 s1 r1 q1 => hf g σ H1 ρ M1 F1 O1 d v _ Q A1 r1 q1 fun ds p xs hp rl q2 =>
    k p xs _ F1 O1 M1 ds (A1.laid hp) s1 upd_same rl (A1.f0 hp) (A1.o0 hp) (A1.g0 hp) q2⟩
theorem b2_run {f : F2} (hf : BF2 X.K r f) {σ : L2.St} {H : Hp} {Q : VK} (h : real X.K W (dOp f pa pb) σ H Q) : tCB r (tCons (realO X.K W pa) (tCons (realO X.K W pb) tNil)) σ H Q := by
  obtain ⟨g, ρ, M, F, O, q, w, A, p, hw, k⟩ := h
  exact ⟨g, ρ, M, F, O, _, w, A, p, hw, fun v H1 F1 O1 M1 d A1 s1 r1 q1 => ⟨g, ρ, M1, F1, O1, _, w, A1, q1, hw.mono s1, fun u H2 F2 O2 M2 e A2 s2 r2 q2 =>
    hf g σ H2 ρ M2 F2 O2 d e v u _ Q A2 (r1.mono s2) r2 q2 fun z w3 H3 F3 O3 A3 s3 r3 q3 => k w3 H3 F3 O3 M2 z A3 ((s1.trans s2).trans s3) r3 q3⟩⟩
section
variable (hg : Gl X x) (hm : X.mg x = none) (hn : x ≠ "__name__" := by decide) (hdb : (x == ("__debug__" : Str)) = false := by decide) (he : starEach [a] X.env = (false, eval a X.env) :: starEach [] X.env := by rfl)
theorem de_b1 {f : F1} (hc : CallR X (.builtin idn) r) (hf : BF1 X.K r f) (hg : Gl X x) (hm : X.mg x = none) (hv : bootBuiltins x = some (.builtin idn)) (ha : DO X W a pa) (hn : x ≠ "__name__" := by decide) (hdb : (x == ("__debug__" : Str)) = false := by decide)
    (he : starEach [a] X.env = (false, eval a X.env) :: starEach [] X.env := by rfl) (hpl : (backTo pos (starEach [] X.env)).any (·.1) = false := by rfl) : DE X W (.Call (.Name x p) [a] [] pos) (dB1 f pa) :=
  pe_imp (pe_callB hc hg hm hv (pa_cons ha pa_nil he) hn hdb he hpl) fun σ H Q h => b1_run hf h
theorem dl_b1 {f : G1} (hc : CallR X (.builtin idn) r) (hf : BG1 X.K r f) (hg : Gl X x) (hm : X.mg x = none) (hv : bootBuiltins x = some (.builtin idn)) (ha : DO X W a pa) (hn : x ≠ "__name__" := by decide) (hdb : (x == ("__debug__" : Str)) = false := by decide)
    (he : starEach [a] X.env = (false, eval a X.env) :: starEach [] X.env := by rfl) (hpl : (backTo pos (starEach [] X.env)).any (·.1) = false := by rfl) : DL X W (.Call (.Name x p) [a] [] pos) (dG1 f pa) :=
  pe_imp (pe_callB hc hg hm hv (pa_cons ha pa_nil he) hn hdb he hpl) fun σ H Q h => g1_run hf h
theorem de_t1 {f : F1} (hc : CallR X (.type T) r) (hf : BF1 X.K r f) (hg : Gl X x) (hm : X.mg x = none) (hv : bootBuiltins x = some (.type T)) (ha : DO X W a pa) (hn : x ≠ "__name__" := by decide) (hdb : (x == ("__debug__" : Str)) = false := by decide)
    (he : starEach [a] X.env = (false, eval a X.env) :: starEach [] X.env := by rfl) (hpl : (backTo pos (starEach [] X.env)).any (·.1) = false := by rfl) : DE X W (.Call (.Name x p) [a] [] pos) (dB1 f pa) :=
  pe_imp (pe_callTy hc hg hm hv (pa_cons ha pa_nil he) hn hdb he hpl) fun σ H Q h => b1_run hf h
theorem dl_t1 {f : G1} (hc : CallR X (.type T) r) (hf : BG1 X.K r f) (hg : Gl X x) (hm : X.mg x = none) (hv : bootBuiltins x = some (.type T)) (ha : DO X W a pa) (hn : x ≠ "__name__" := by decide) (hdb : (x == ("__debug__" : Str)) = false := by decide)
    (he : starEach [a] X.env = (false, eval a X.env) :: starEach [] X.env := by rfl) (hpl : (backTo pos (starEach [] X.env)).any (·.1) = false := by rfl) : DL X W (.Call (.Name x p) [a] [] pos) (dG1 f pa) :=
  pe_imp (pe_callTy hc hg hm hv (pa_cons ha pa_nil he) hn hdb he hpl) fun σ H Q h => g1_run hf h
theorem de_b2 {f : F2} (hc : CallR X (.builtin idn) r) (hf : BF2 X.K r f) (hg : Gl X x) (hm : X.mg x = none) (hv : bootBuiltins x = some (.builtin idn)) (ha : DO X W a pa) (hb : DO X W b pb) (hn : x ≠ "__name__" := by decide) (hdb : (x == ("__debug__" : Str)) = false := by decide)
    (he : starEach [a, b] X.env = (false, eval a X.env) :: starEach [b] X.env := by rfl) (he2 : starEach [b] X.env = (false, eval b X.env) :: starEach [] X.env := by rfl) (hpl : (backTo pos (starEach [b] X.env)).any (·.1) = false := by rfl) : DE X W (.Call (.Name x p) [a, b] [] pos) (dOp f pa pb) :=
  pe_imp (pe_callB hc hg hm hv (pa_cons ha (pa_cons hb pa_nil he2) he) hn hdb he hpl) fun σ H Q h => b2_run hf h
end
def fLen : F1
  | .lst l, k => k (.int l.length)
  | .tup l, k => k (.int l.length)
  | .scr l, k => k (.int l.length)
  | .str s, k => s.length ≤ 1000000 ∧ k (.int s.length)
  | _, _ => False
theorem bf_len : BF1 X.K (fun xs H Q => ∃ x n, xs = [x] ∧ LenV X.K x H n ∧ Q (.int n) H) fLen := by
  intro g σ H ρ M F O x v k Q A rx h c
  unfold fLen at h
  split at h
  · rename_i l
    obtain ⟨a, xs, e, hp, r⟩ := rx.lst A
    exact ⟨v, xs.length, rfl, by rw [e]; exact .inl ⟨xs, .inl (.inl hp), rfl⟩, c (.int xs.length) _ H F O A (Same.refl F) rfl (by rw [← r.len]; exact h)⟩
  · rename_i l
    obtain ⟨a, xs, e, hp, r⟩ := rx.tup A
    exact ⟨v, xs.length, rfl, by rw [e]; exact .inr ⟨xs, hp, rfl⟩, c (.int xs.length) _ H F O A (Same.refl F) rfl (by rw [← r.len]; exact h)⟩
  · rename_i l
    obtain ⟨a, e, hp⟩ := rx.scr A
    exact ⟨v, (l.map V.int).length, rfl, by rw [e]; exact .inl ⟨_, hp, rfl⟩, c (.int l.length) _ H F O A (Same.refl F) (by rw [List.length_map]; rfl) h⟩
  · rename_i s
    exact ⟨v, s.length, rfl, by rw [rx.str]; exact ⟨line_big h.1, rfl⟩, c (.int s.length) _ H F O A (Same.refl F) rfl h.2⟩
  · exact h.elim
theorem de_len (hg : Gl X "len") (hm : X.mg "len" = none) (ha : DO X W a pa) (he : starEach [a] X.env = (false, eval a X.env) :: starEach [] X.env := by rfl) (hpl : (backTo pos (starEach [] X.env)).any (·.1) = false := by rfl) :
    DE X W (.Call (.Name "len" p) [a] [] pos) (dB1 fLen pa) := de_b1 call_len bf_len hg hm PySem.boot_len ha (by decide) (by decide) he hpl
def intsOf : List D → Option (List Int)
  | [] => some []
  | .int i :: r => (intsOf r).map (i :: ·)
  | _ => none
theorem intsOf_eq : ∀ {l : List D} {ns : List Int}, intsOf l = some ns → l = ns.map .int
  | [], ns, h => by cases h; rfl
  | d :: r, ns, h => by
    cases d with
    | int i =>
      have h' : (intsOf r).map (i :: ·) = some ns := h
      cases e : intsOf r with
      | none => rw [e] at h'; cases h'
      | some ms =>
        rw [e] at h'
        cases h'
        rw [intsOf_eq e]; rfl
    | _ => cases h
def boolsOf : List D → Option (List Bool)
  | [] => some []
  | .bl i :: r => (boolsOf r).map (i :: ·)
  | _ => none
theorem boolsOf_eq : ∀ {l : List D} {ns : List Bool}, boolsOf l = some ns → l = ns.map .bl
  | [], ns, h => by cases h; rfl
  | d :: r, ns, h => by
    cases d with
    | bl i =>
      have h' : (boolsOf r).map (i :: ·) = some ns := h
      cases e : boolsOf r with
      | none => rw [e] at h'; cases h'
      | some ms =>
        rw [e] at h'
        cases h'
        rw [boolsOf_eq e]; rfl
    | _ => cases h
theorem boolsOf_map : ∀ ns : List Bool, boolsOf (ns.map .bl) = some ns
  | [] => rfl
  | n :: ns => by
    show (boolsOf (ns.map .bl)).map (n :: ·) = _
    rw [boolsOf_map ns]; rfl
def minL : Int → List Int → Int
  | n, [] => n
  | n, m :: r => minL (if m < n then m else n) r
def maxL : Int → List Int → Int
  | n, [] => n
  | n, m :: r => maxL (if m > n then m else n) r
def fMin : F1
  | .lst l, k => match intsOf l with | some (n :: r) => k (.int (minL n r)) | _ => False
  | _, _ => False
def fMax : F1
  | .lst l, k => match intsOf l with | some (n :: r) => k (.int (maxL n r)) | _ => False
  | _, _ => False
def fAll : F1
  | .lst l, k => match boolsOf l with | some bs => k (.bl (bs.all id)) | _ => False
  | _, _ => False
def fAny : F1
  | .lst l, k => match boolsOf l with | some bs => k (.bl (bs.any id)) | _ => False
  | _, _ => False
theorem bf_all : BF1 X.K (rAll X.K) fAll := by
  intro g σ H ρ M F O x v k Q A rx h c
  unfold fAll at h
  split at h
  · split at h
    · rename_i bs e
      obtain ⟨a, xs, e1, hp, rl⟩ := rx.lst A
      rw [boolsOf_eq e] at rl
      have ex := rl.bls
      subst ex
      exact ⟨a, bs, by rw [e1], .inl (.inl hp), c (.bl (bs.all id)) _ H F O A (Same.refl F) rfl h⟩
    · exact h.elim
  · exact h.elim
def fAbs : F1
  | .int i, k => k (.int (if i < 0 then -i else i))
  | _, _ => False
theorem bf_abs : BF1 X.K (fun xs H Q => ∃ i, xs = [.int i] ∧ Q (.int (if i < 0 then -i else i)) H) fAbs := by
  intro g σ H ρ M F O x v k Q A rx h c
  unfold fAbs at h
  split at h
  · rename_i i
    exact ⟨i, by rw [rx.int], c (.int (if i < 0 then -i else i)) _ H F O A (Same.refl F) rfl h⟩
  · exact h.elim
def fMin2 : F2
  | .int i, .int j, k => k (.int (if j < i then j else i))
  | _, _, _ => False
def fMax2 : F2
  | .int i, .int j, k => k (.int (if j > i then j else i))
  | _, _, _ => False
theorem bf_min2 : BF2 X.K (fun xs H Q => ∃ i j, xs = [.int i, .int j] ∧ Q (.int (if j < i then j else i)) H) fMin2 := by
  intro g σ H ρ M F O x y v u k Q A rx ry h c
  unfold fMin2 at h
  split at h
  · rename_i i j
    exact ⟨i, j, by rw [rx.int, ry.int], c (.int (if j < i then j else i)) _ H F O A (Same.refl F) rfl h⟩
  · exact h.elim
theorem bf_max2 : BF2 X.K (fun xs H Q => ∃ i j, xs = [.int i, .int j] ∧ Q (.int (if j > i then j else i)) H) fMax2 := by
  intro g σ H ρ M F O x y v u k Q A rx ry h c
  unfold fMax2 at h
  split at h
  · rename_i i j
    exact ⟨i, j, by rw [rx.int, ry.int], c (.int (if j > i then j else i)) _ H F O A (Same.refl F) rfl h⟩
  · exact h.elim
section
variable (he : starEach [a] X.env = (false, eval a X.env) :: starEach [] X.env)
theorem de_all (hc : X.calm = true) (hg : Gl X "all") (hm : X.mg "all" = none) (ha : DO X W a pa) (he : starEach [a] X.env = (false, eval a X.env) :: starEach [] X.env := by rfl) (hpl : (backTo pos (starEach [] X.env)).any (·.1) = false := by rfl) :
    DE X W (.Call (.Name "all" p) [a] [] pos) (dB1 fAll pa) := de_b1 (cr_all hc) bf_all hg hm (by decide +kernel) ha (by decide) (by decide) he hpl
theorem de_abs (hg : Gl X "abs") (hm : X.mg "abs" = none) (ha : DO X W a pa) (he : starEach [a] X.env = (false, eval a X.env) :: starEach [] X.env := by rfl) (hpl : (backTo pos (starEach [] X.env)).any (·.1) = false := by rfl) :
    DE X W (.Call (.Name "abs" p) [a] [] pos) (dB1 fAbs pa) := de_b1 call_abs bf_abs hg hm (by decide +kernel) ha (by decide) (by decide) he hpl
theorem de_min2 (hc : X.calm = true) (hg : Gl X "min") (hm : X.mg "min" = none) (ha : DO X W a pa) (hb : DO X W b pb) (he : starEach [a, b] X.env = (false, eval a X.env) :: starEach [b] X.env := by rfl) (he2 : starEach [b] X.env = (false, eval b X.env) :: starEach [] X.env := by rfl)
    (hpl : (backTo pos (starEach [b] X.env)).any (·.1) = false := by rfl) : DE X W (.Call (.Name "min" p) [a, b] [] pos) (dOp fMin2 pa pb) := de_b2 (call_min2 hc) bf_min2 hg hm (by decide +kernel) ha hb (by decide) (by decide) he he2 hpl
theorem de_max2 (hc : X.calm = true) (hg : Gl X "max") (hm : X.mg "max" = none) (ha : DO X W a pa) (hb : DO X W b pb) (he : starEach [a, b] X.env = (false, eval a X.env) :: starEach [b] X.env := by rfl) (he2 : starEach [b] X.env = (false, eval b X.env) :: starEach [] X.env := by rfl)
    (hpl : (backTo pos (starEach [b] X.env)).any (·.1) = false := by rfl) : DE X W (.Call (.Name "max" p) [a, b] [] pos) (dOp fMax2 pa pb) := de_b2 (call_max2 hc) bf_max2 hg hm (by decide +kernel) ha hb (by decide) (by decide) he he2 hpl
end
def tyD : D → Option String
  | .non => some "NoneType"
  | .bl _ => some "bool"
  | .int _ => some "int"
  | .str _ => some "str"
  | .tup _ => some "tuple"
  | .lst _ => some "list"
  | .dic _ _ => some "dict"
  | .scr _ => some "list"
  | _ => none
def subTy (a t : String) : Bool := a == t || (a == "bool" && t == "int")
def tys : List String := ["NoneType", "bool", "int", "str", "tuple", "list", "dict"]
theorem kit_tys : ∀ a ∈ tys, ∀ t ∈ tys, kitB a t = some (subTy a t) := by decide +kernel
theorem tyD_mem {d : D} {a : String} (h : tyD d = some a) : a ∈ tys := by
  cases d <;> first | (cases h; decide) | cases h
theorem vw_ty {K : PySem.W.Frag} {g : Gh} {σ : L2.St} {H : Hp} {ρ : Rho} {M : Mm} {F : Hp} {O : Own} {d : D} {v : V} {t : String} (A : Ab K g σ H ρ M F O) (r : Vw K σ ρ F d v) (h : tyD d = some t) : TyX K H v (.type t) := by
  cases d with
  | non => cases h; rw [r.non]; exact .base .non
  | bl b => cases h; rw [r.bl]; exact .base (.bl b)
  | int i => cases h; rw [r.int]; exact .base (.int i)
  | str s => cases h; rw [r.str]; exact .base (.str s)
  | lst l =>
    cases h
    obtain ⟨a, xs, e, hp, _⟩ := r.lst A
    rw [e]; exact .base (.lst hp)
  | tup l =>
    cases h
    obtain ⟨a, xs, e, hp, _⟩ := r.tup A
    rw [e]
    rcases hp with (hp | ⟨o, hp⟩) | ⟨o, its, n, hk, hc, _⟩
    · exact .base (.tup hp)
    · exact .fTuple hp
    · exact .kTuple hk hc
  | scr l =>
    cases h
    obtain ⟨a, e, hp⟩ := r.scr A
    rw [e]
    rcases hp with (hp | ⟨o, hp⟩) | ⟨o, its, n, hk, hc, _⟩
    · exact .base (.lst hp)
    · exact .base (.frz hp)
    · exact .kList hk hc
  | dic ks l =>
    cases h
    rcases r with ⟨a, kvs, e, hp, _⟩ | ⟨_, _, _, _, _, _, z⟩
    · rw [e]
      rcases same_rd A.sub hp with hp | ⟨o, hp⟩
      · exact .base (.dK hp)
      · exact .fDict hp
    · cases z
  | obj _ _ _ => cases h
  | raw _ => cases h
  | clo _ _ _ _ _ => cases h
  | fnc _ _ _ _ => cases h
  | exv _ _ _ _ _ => cases h
def fIsi (t : String) : F1 := fun d k => match tyD d with | some a => k (.bl (subTy a t)) | none => False
theorem de_isi (T : String) (hT : T ∈ tys) {x2 : Str} {p2 : Pos} (hg : Gl X "isinstance") (hm : X.mg "isinstance" = none) (hg2 : Gl X x2) (hm2 : X.mg x2 = none) (hv2 : bootBuiltins x2 = some (.type T)) (ha : DO X W a pa)
    (hn2 : x2 ≠ "__name__" := by decide) (hd2 : (x2 == ("__debug__" : Str)) = false := by decide)
    (he : starEach [a, .Name x2 p2] X.env = (false, eval a X.env) :: starEach [.Name x2 p2] X.env := by rfl) (he2 : starEach [.Name x2 p2] X.env = (false, eval (.Name x2 p2) X.env) :: starEach [] X.env := by rfl)
    (hpl : (backTo pos (starEach [.Name x2 p2] X.env)).any (·.1) = false := by rfl) : DE X W (.Call (.Name "isinstance" p) [a, .Name x2 p2] [] pos) (dB1 (fIsi T) pa) :=
  pe_imp (pe_callB call_isi hg hm (by decide +kernel) (pa_cons ha (pa_cons (pe_bltn (v := .ty T) hg2 hm2 hv2 rfl hn2 hd2) pa_nil he2) he) (by decide) (by decide) he hpl) fun σ H Q ⟨g, ρ, M, F, O, q, w, A, p, hw, k⟩ =>
  ⟨g, ρ, M, F, O, _, w, A, p, hw, fun v H1 F1 O1 M1 d A1 s1 r1 q1 => by
    cases e : tyD d with
    | none => simp only [fIsi, e] at q1
    | some t =>
      simp only [fIsi, e] at q1
      exact ⟨v, .ty T, _, _, subTy t T, rfl, .ty T, vw_ty A1 r1 e, kit_ty (kit_tys t (tyD_mem e) T hT), k (.bl (subTy t T)) H1 F1 O1 M1 (.bl (subTy t T)) A1 s1 rfl q1⟩⟩
end
end Px
set_option Elab.async false
set_option linter.all false
set_option maxRecDepth 100000
namespace Px
open PySem PySem.Spec PyProof.Rows L2
abbrev PSp := List D → Mm → PQ → PX → Prop
def Aft (K : PySem.W.Frag) (H : Hp) (F : Hp) (O : Own) (H' : Hp) (M' : Mm) (F' : Hp) (O' : Own) : Prop :=
  Wd K ⟨H, F, fun a => ∃ m, O a = some (.obj m), []⟩ H' M' F' O' ∧ ∀ a o, O' a = some o → ∃ m, o = .obj m
def toSp (K : PySem.W.Frag) (n : Nat) (sp : PSp) : Sp := fun vs H Q E => ∃ g F M O ds q e, vs.length = n ∧ Wd K g H M F O ∧ RpL K F ds vs ∧ sp ds M q e ∧
  (∀ v H' F' O' M' d, Aft K H F O H' M' F' O' → Rp K F' d v → q d M' → Q v H') ∧
  (∀ cls dd H' F' O' M' fs, Aft K H F O H' M' F' O' → ExOk K F' dd fs → e cls fs M' → E cls dd H')
section
variable {K : PySem.W.Frag} {g : Gh} {σ : L2.St} {H H' : Hp} {ρ : Rho} {M M' : Mm} {F F' : Hp} {O O' : Own}
open Classical in
theorem Ab.after2 (A : Ab K g σ H ρ M F O) (B : Aft K H F O H' M' F' O') : ∃ O2, Ab K g σ H' ρ M' F' O2 ∧ Same F F' ∧ ∀ a, O a = none → O2 a = O' a := by
  obtain ⟨B, hb⟩ := B
  have s : Same F F' := B.ext0
  have nobj : ∀ {a o}, O a = some o → (∀ m, o ≠ .obj m) → ¬ ∃ m, O a = some (.obj m) := fun e n ⟨m, z⟩ => by rw [e] at z; exact n m (Option.some.inj z)
  have keep : ∀ {a o u}, O a = some o → (∀ m, o ≠ .obj m) → H a = some u → H' a = some u := fun {a o u} e n h => B.frm a u h (nobj e n)
  have apart : ∀ {a o o'}, O a = some o → (∀ m, o ≠ .obj m) → O' a = some o' → False := fun {a o o'} e n e' => by
    obtain ⟨⟨x, hx⟩, _⟩ := A.liv a o e
    rcases (B.liv a o' e').2.2 with z | z
    · exact nobj e n z
    · rw [show H a = none from z] at hx; cases hx
  refine ⟨fun a => if (∃ o, O a = some o ∧ ∀ m, o ≠ .obj m) then O a else O' a, ?_, s, fun a e => if_neg (by
    rintro ⟨u, e1, _⟩
    rw [e] at e1; cases e1)⟩
  have priv : ∀ {a o}, O a = some o → (∀ m, o ≠ .obj m) → (if (∃ o, O a = some o ∧ ∀ m, o ≠ .obj m) then O a else O' a) = some o := fun e n => by rw [if_pos ⟨_, e, n⟩]; exact e
  have publ : ∀ {a o}, O' a = some o → (if (∃ o, O a = some o ∧ ∀ m, o ≠ .obj m) then O a else O' a) = some o := fun {a o} e => by
    rw [if_neg]
    · exact e
    · rintro ⟨u, e1, n⟩
      exact apart e1 n e
  exact { sub := B.sub, ext0 := A.ext0.trans s
          new := fun a o e => by
            rcases B.new a o e with z | z
            · exact A.new a o z
            · exact .inr (A.g0 z)
          frm := fun a o e n => by
            refine B.frm a o (A.frm a o e n) ?_
            rintro ⟨m, z⟩
            rcases (A.liv a _ z).2.2 with y | y
            · exact n y
            · rw [e] at y; cases y
          thr := fun a o e => by
            obtain ⟨o1, z⟩ := A.thr a o e
            exact B.thr a o1 z
          liv := fun a o e => by
            by_cases c : ∃ o, O a = some o ∧ ∀ m, o ≠ .obj m
            · rw [if_pos c] at e
              obtain ⟨u, e1, n⟩ := c
              rw [e] at e1; cases e1
              obtain ⟨⟨x, hx⟩, hF, h0⟩ := A.liv a o e
              refine ⟨⟨x, keep e n hx⟩, ?_, h0⟩
              cases z : F' a with
              | none => rfl
              | some y =>
                rcases B.new a y z with w | w
                · rw [show F a = some y from w] at hF; cases hF
                · rw [show H a = none from w] at hx; cases hx
            · rw [if_neg c] at e
              obtain ⟨h1, h2, h3⟩ := B.liv a o e
              refine ⟨h1, h2, ?_⟩
              rcases h3 with ⟨m, z⟩ | z
              · exact (A.liv a _ z).2.2
              · exact .inr (A.g0 z)
          slo := fun a o e n => by
            by_cases c : ∃ o, O a = some o ∧ ∀ m, o ≠ .obj m
            · rw [if_pos c] at e
              exact A.slo a o e n
            · rw [if_neg c] at e
              obtain ⟨m, z⟩ := hb a o e
              exact absurd z (n m)
          tm := fun p l e => by
            obtain ⟨xs, e1, e2, e3⟩ := A.tm p l e
            exact ⟨xs, keep e3 (fun _ z => by cases z) e1, RpL.mono s _ _ e2, priv e3 (fun _ z => by cases z)⟩
          mu := fun a mo e => (B.mu a mo e).mono (Same.refl F') fun q u e1 e2 => ⟨e1, publ e2⟩
          len := A.len
          sl := fun i sv e => by
            obtain ⟨v, e1, r⟩ := A.sl i sv e
            exact ⟨v, e1, r.mono s fun p xs e2 e3 => ⟨keep e3 (fun _ z => by cases z) e2, priv e3 (fun _ z => by cases z)⟩⟩ }
theorem Ab.after (A : Ab K g σ H ρ M F O) (B : Aft K H F O H' M' F' O') : ∃ O2, Ab K g σ H' ρ M' F' O2 ∧ Same F F' :=
  let ⟨O2, h1, h2, _⟩ := A.after2 B
  ⟨O2, h1, h2⟩
def startR (n : Nat) (ds : List D) : Rho := ds.map (fun d => some (.val d)) ++ List.replicate (n - ds.length) none
theorem gt_app : ∀ (ds : List D) (i n : Nat) {sv : Sv}, gt (ds.map (fun d => some (Sv.val d)) ++ List.replicate n none) i = some sv → ∃ d, sv = .val d ∧ ds[i]? = some d
  | [], i, n, sv, h => by
    have key : ∀ (n i : Nat), gt (List.replicate n none) i = none := by
      intro n
      induction n with
      | zero => intro i; rfl
      | succ n ih => intro i; cases i with | zero => rfl | succ i => exact ih i
    have h' : gt (List.replicate n none) i = some sv := h
    rw [key] at h'; cases h'
  | d :: ds, 0, n, sv, h => ⟨d, (Option.some.inj h).symm, rfl⟩
  | d :: ds, i + 1, n, sv, h => by
    obtain ⟨e, h1, h2⟩ := gt_app ds i n (sv := sv) h
    exact ⟨e, h1, by simpa using h2⟩
def objs (O : Own) : Own := fun a => match O a with | some (.obj m) => some (.obj m) | _ => none
theorem objs_of {O : Own} {a : Addr} {o : Ow} (h : objs O a = some o) : ∃ m, o = .obj m ∧ O a = some (.obj m) := by
  unfold objs at h
  split at h
  · rename_i m e
    cases h
    exact ⟨m, rfl, e⟩
  · cases h
theorem objs_to {O : Own} {a m : Addr} (h : O a = some (.obj m)) : objs O a = some (.obj m) := by
  unfold objs
  rw [h]
theorem Wd.enter {ds : List D} {vs : List V} {N : List Str} (A : Wd K g H M F O) (r : RpL K F ds vs) : Ab K ⟨H, F, fun a => ∃ m, O a = some (.obj m), []⟩ (L2.start N vs) H (startR N.length ds) M F (objs O) :=
  { sub := A.sub, ext0 := Same.refl F, new := fun a o e => .inl e, frm := fun a o e _ => e, thr := fun a o e => ⟨o, e⟩
    liv := fun a o e => by
      obtain ⟨m, rfl, e1⟩ := objs_of e
      obtain ⟨h1, h2, _⟩ := A.liv a _ e1
      exact ⟨h1, h2, .inl ⟨m, e1⟩⟩
    slo := fun a o e n => by
      obtain ⟨m, rfl, e1⟩ := objs_of e
      exact absurd rfl (n m)
    tm := fun p l e => absurd e (by simp)
    mu := fun a mo e => (A.mu a mo e).mono (Same.refl F) fun q u e1 e2 => ⟨e1, objs_to e2⟩
    len := by
      unfold startR L2.start
      rw [List.length_append, List.length_append, List.length_map, List.length_map, List.length_replicate, List.length_replicate, r.len]
    sl := fun i sv e => by
      obtain ⟨d, rfl, e1⟩ := gt_app ds i _ e
      obtain ⟨v, e2, r2⟩ := r.get e1
      refine ⟨v, ?_, r2⟩
      unfold L2.start
      have hi : i < vs.length := (List.getElem?_eq_some_iff.mp e2).1
      rw [List.getElem?_append_left (by simpa using hi), List.getElem?_map, e2]
      rfl }
def MLe (M' M : Mm) : Prop := ∀ a mo, M' a = some mo → M a = some mo
theorem MLe.refl (M : Mm) : MLe M M := fun _ _ h => h
theorem Ab.leave {H0 : Hp} {F0 : Hp} {w : Addr → Prop} (A : Ab K ⟨H0, F0, w, []⟩ σ H ρ M F O) (h : MLe M' M) : Wd K ⟨H0, F0, w, []⟩ H M' F (objs O) ∧ ∀ a o, objs O a = some o → ∃ m, o = .obj m := by
  refine ⟨?_, fun a o e => let ⟨m, e1, _⟩ := objs_of e; ⟨m, e1⟩⟩
  exact { sub := A.sub, ext0 := A.ext0, new := A.new, frm := A.frm, thr := A.thr
          liv := fun a o e => by
            obtain ⟨m, rfl, e1⟩ := objs_of e
            exact A.liv a _ e1
          slo := fun a o e n => by
            obtain ⟨m, rfl, e1⟩ := objs_of e
            exact absurd rfl (n m)
          tm := fun p l e => absurd e (by simp)
          mu := fun a mo e => (A.mu a mo (h a mo e)).mono (Same.refl F) fun q u e1 e2 => ⟨e1, objs_to e2⟩ }
end
section
variable (P : Program) (w : World) (K : PySem.W.Frag) (mg : Str → Option Value) (base : Heap)
structure FnG (k : Nat) (f : Addr) (fd : FuncData) (ps : List Str) (sp : Sp) : Prop where
  len : ∀ vs H Q E, sp vs H Q E → vs.length = ps.length
  run : ∀ (A : Around) (outer : List Env) (s : Shared) (H : Hp) (args : Args) (us : List Value) (vs : List V) (Q : VK) (E : XK), Room k A → A.guards = some [] → Env0 P w K mg base A outer s H →
    BindsTo s fd args (ps.zip us) → Vals vs us → sp vs H Q E → codeAny (model P w) A (.call (.ref f) args) (CR (L2.CX P w) outer P w H s Q E) s
end
section
variable {P : Program} {w : World} {K : PySem.W.Frag} {mg : Str → Option Value} {base : Heap} {j k : Nat} {f : Addr} {fd : FuncData} {ps N : List Str}
theorem FnG.mono {sp : Sp} (Fg : FnG P w K mg base j f fd ps sp) (h : j ≤ k) : FnG P w K mg base k f fd ps sp := ⟨Fg.len, fun A o s H a us vs Q E r => Fg.run A o s H a us vs Q E (r.mono h)⟩
theorem toSp_len {n : Nat} {sp : PSp} {vs : List V} {H : Hp} {Q : VK} {E : XK} (h : toSp K n sp vs H Q E) : vs.length = n := by
  obtain ⟨_, _, _, _, _, _, _, e, _⟩ := h
  exact e
abbrev WE (E : XK) : WX := fun cls d _ H => E cls d H
theorem Fun.gok {x qual : Str} {stm : Stmt} {sp : Sp} (Fn : L2.Fun K x qual stm f fd) (S : FnScope N ps (defScope stm)) (hn : ∀ vs H Q E, sp vs H Q E → vs.length = ps.length)
    (hbody : ∀ (cdv : Value) (A : Around) (outer : List Env) (s : Shared) (H : Hp) (vs : List V) (Q : VK) (E : XK), Room k (A.deeper (envOfC qual (defScope stm) s.heap.objs.size f cdv)) → A.guards = some [] → sp vs H Q E →
      ∃ t : TS, PSs (cxOf (L2.CX P w) P w K mg base N qual (defScope stm) f cdv A outer s H E) (defBody stm) t ∧ t { nx := fun _ H' => Q .non H', rt := Q } (L2.start N vs) H) :
    FnG P w K mg base (k + 1) f fd ps sp := by
  obtain ⟨oc, od, kV, doc, pm, an, cdv, ct, osl, rfl, lk, hcd⟩ := Fn.ex
  refine ⟨hn, fun A outer s H args us vs Q E hr hG e0 hb r hsp => ?_⟩
  have hl : vs.length = ps.length := hn _ _ _ _ hsp
  have KX : K.In s.heap := e0.mod.kin.keeps fun b o e => (e0.bs b o e).1
  have lim : s.heap.NoLimit := e0.mod.nolimit.keeps fun b o e => (e0.bs b o e).1
  have kinds : ∀ y ∈ ps.zip us, (defScope stm).names.lookup y.1 = some .local ∨ ((defScope stm).names.lookup y.1 = some .cell ∧ ((cellsFrom (s.heap.objs.size + 1) (defScope stm).names []).lookup y.1).isSome = true) := by
    rintro ⟨n, v⟩ hy
    rcases S.par n (List.of_mem_zip hy).1 with q | q
    · exact .inl q
    · exact .inr ⟨q, PySem.W.cellsFrom_some _ _ _ (.inl q)⟩
  refine codeAny_call_function hr.depth (KX _ _ lk) rfl S.co S.gen rfl (PySem.W.codeRec_of KX hcd) (hb _ _ _ _ ?_)
  refine wpAny_newFunctionEnv_cells S.kind kinds fun env he s1 x => ?_
  subst he
  refine ⟨lim.keeps x.toInCall.keep, codeAny_func ?_⟩
  obtain ⟨t, ht, hq⟩ := hbody cdv A outer s H vs Q E (hr.deeper _) hG hsp
  have I := inv_start (CX := L2.CX P w) (E := E) (qual := qual) (f := f) (cd := cdv) (A := A) S hr.hd e0 hl r x
  refine wpAny_mono (ht.run [] s1 (L2.start N vs) H { nx := fun _ H' => Q .non H', rt := Q } I hq) (fun fl s' hs => ?_) fun e s' hs => hs
  cases fl with
  | ret u =>
    obtain ⟨v, σ', H', J, rv, q⟩ := hs
    exact ⟨v, H', J.os, J.bare, J.base, J.hok, rv, q⟩
  | next =>
    obtain ⟨σ', H', J, q⟩ := hs
    exact ⟨.non, H', J.os, J.bare, J.base, J.hok, rfl, q⟩
  | brk =>
    obtain ⟨_, _, _, q⟩ := hs
    exact q.elim
  | cont =>
    obtain ⟨_, _, _, q⟩ := hs
    exact q.elim
def Shows (sp : PSp) (N : Nat) (p : PTS) : Prop := ∀ ds M q e, sp ds M q e →
  p (fun cls fs _ M' => ∃ M2, MLe M2 M' ∧ e cls fs M2) { nx := fun _ M' => ∃ M2, MLe M2 M' ∧ q .non M2, rt := fun d M' => ∃ M2, MLe M2 M' ∧ q d M2 } (startR N ds) M
theorem Fun.pok {x qual : Str} {stm : Stmt} {n : Nat} {sp : PSp} {p : PTS} (Fn : L2.Fun K x qual stm f fd) (S : FnScope N ps (defScope stm)) (hn : ps.length = n) (hs : Shows sp N.length p)
    (hbody : ∀ (cdv : Value) (A : Around) (outer : List Env) (s : Shared) (H : Hp) (E : XK), Room k (A.deeper (envOfC qual (defScope stm) s.heap.objs.size f cdv)) → A.guards = some [] →
      DSs (cxOf (L2.CX P w) P w K mg base N qual (defScope stm) f cdv A outer s H E) (WE E) (defBody stm) p) :
    FnG P w K mg base (k + 1) f fd ps (toSp K n sp) := by
  refine Fun.gok Fn S (fun vs H Q E h => by rw [toSp_len h, hn]) fun cdv A outer s H vs Q E hr hG hsp => ⟨_, hbody cdv A outer s H E hr hG, ?_⟩
  obtain ⟨g, F, M, O, ds, q, e, _, A0, rp, hsp, hQ, hE⟩ := hsp
  refine ⟨_, _, _, _, _, _, _, A0.enter (N := N) rp, hs ds M q e hsp, ?_, ?_, ?_, ?_, ?_, ?_⟩
  · intro cls dd σ' H' ρ' M' F' O' fs A2 s2 x2 ⟨M2, h1, h2⟩
    exact hE cls dd H' F' _ M2 fs (A2.leave h1) x2 h2
  · intro σ' H' ρ' M' F' O' A2 s2 ⟨M2, h1, h2⟩
    exact hQ .non H' F' _ M2 .non (A2.leave h1) rfl h2
  · intro v σ' H' ρ' M' F' O' d A2 s2 r2 ⟨M2, h1, h2⟩
    exact hQ v H' F' _ M2 d (A2.leave h1) r2 h2
  · intro σ' H' ρ' M' F' O' A2 s2 z; exact z.elim
  · intro σ' H' ρ' M' F' O' A2 s2 z; exact z.elim
  · intro a xs σ' H' ρ' M' F' O' ds A2 s2 e1 e2 e3 e4 e5 z; exact z.elim
end
section
variable {X : Cx} {W : WX} {k n : Nat} {f : Addr} {fd : FuncData} {ps : List Str} {sp : PSp} {x : Str} {p pos : Pos} {e : Expr} {es : List Expr} {pl : PTA} {ds : List Value} {dd : List D} {dvs : List V}
theorem run_g {sp : Sp} {pins : List (Addr × Obj)} {σ : L2.St} {H : Hp} {s : Shared} {Q : VK} {us : List Value} {vs : List V} (Fg : FnG X.prog X.w X.K X.mg X.base k f fd ps sp) (hr : Room k X.A) (hG : X.A.guards = some []) (hb : Binds X.K fd ps ds) (hd : Vals dvs ds)
    (tk : Takes X W) (I : Inv X pins σ H s) (r : Vals vs us) (h : sp (vs ++ dvs) H Q (fun cls d H' => W cls d σ H')) : wpAny (model X.prog X.w) X.A (call (.ref f) us) (EP X pins σ Q) X.xe s := by
  have r2 : Vals (vs ++ dvs) (us ++ ds) := r.append hd
  have hl : (us ++ ds).length = ps.length := by rw [← r2.length]; exact Fg.len _ _ _ _ h
  refine wpAny_call (codeAny_mono (Fg.run X.A X.stack s H ⟨us, []⟩ (us ++ ds) (vs ++ dvs) Q _ hr hG I.env0 (hb s us I.kIn hl) r2 h) fun r s' hq => ?_)
  cases r with
  | error e => exact tk e s' (XE.of_call I (fun _ _ _ h => h) hq)
  | ok fl =>
    cases fl with
    | ret u => exact I.after hq
    | next => exact hq.elim
    | brk => exact hq.elim
    | cont => exact hq.elim
def dCall (sp : PSp) (dd : List D) (pl : PTA) : PTE := fun w ρ M q => pl w ρ M fun ds M1 => sp (ds ++ dd) M1 q fun cls fs M2 => w cls fs ρ M2
theorem call_reading {K : PySem.W.Frag} {g : Gh} {σ : L2.St} {H : Hp} {ρ : Rho} {M : Mm} {F : Hp} {O : Own} {w : PWi} {q : PQ} {ds : List D} {vs : List V} {Q : VK} (hn : ps.length = n) (hd : ∀ F, RpL K F dd dvs) (A : Ab K g σ H ρ M F O) (hw : WOk K g F W w)
    (r : RpL K F ds vs) (hl : (ds ++ dd).length = n) (h : sp (ds ++ dd) M q fun cls fs M2 => w cls fs ρ M2) (k : ∀ v H' F' O' M' d, Ab K g σ H' ρ M' F' O' → Same F F' → Rp K F' d v → q d M' → Q v H') :
    toSp K n sp (vs ++ dvs) H Q fun cls d H' => W cls d σ H' := by
  have r2 := r.app (hd F)
  refine ⟨g, F, M, O, ds ++ dd, q, _, by rw [← hl, r2.len], A.toWd, r2, h, fun v H' F' O' M' d B rd hq => ?_, fun cls dd H' F' O' M' fs B x hq => ?_⟩
  · obtain ⟨O2, A2, s⟩ := A.after B
    exact k v H' F' O2 M' d A2 s rd hq
  · obtain ⟨O2, A2, s⟩ := A.after B
    exact hw cls dd σ H' ρ M' F' O2 fs A2 s x hq
theorem de_callD (Fg : FnG X.prog X.w X.K X.mg X.base k f fd ps (toSp X.K n sp)) (hn : ps.length = n) (hlen : ∀ ds M q e, sp ds M q e → ds.length = n) (hr : Room k X.A) (hG : X.A.guards = some []) (hg : Gl X x) (hm : X.mg x = some (.ref f))
    (hk : PySem.W.keepIn X.K (.ref f) = true) (hb : Binds X.K fd ps ds) (hv : Vals dvs ds) (hd : ∀ F, RpL X.K F dd dvs) (tk : Takes X W) (ha : DA X W (e :: es) pl) (hdb : (x == ("__debug__" : Str)) = false := by decide)
    (he : starEach (e :: es) X.env = (false, eval e X.env) :: starEach es X.env := by rfl) (hpl : (backTo pos (starEach es X.env)).any (·.1) = false := by rfl) : DE X W (.Call (.Name x p) (e :: es) [] pos) (dCall sp dd pl) := by
  refine ⟨fun pins s σ H Q I ⟨g, ρ, M, F, O, q, w, A, pr, hw, k⟩ => ?_⟩
  refine wpAny_Call_Name_kw (ld_glob I hg hm ?_ hdb)
  refine PySem.W.callWith_K (h₀ := X.base) I.ok.mod.kin hk (thn (ha.run pos pins s σ H (fun vs H1 => toSp X.K n sp (vs ++ dvs) H1 Q fun cls d H' => W cls d σ H') I ?_) fun us s1 hh => ?_) he hpl
  · exact ⟨g, ρ, M, F, O, _, w, A, pr, hw, fun vs H1 F1 O1 M1 d1 A1 s1 r1 q1 => call_reading hn hd A1 (hw.mono s1) r1 (hlen _ _ _ _ q1) q1 fun v H2 F2 O2 M2 d2 A2 s2 r2 q2 => k v H2 F2 O2 M2 d2 A2 (s1.trans s2) r2 q2⟩
  · obtain ⟨vs, H1, I1, r, q1⟩ := hh
    exact ⟨I1.kIn, run_g Fg hr hG hb hv tk I1 r q1⟩
theorem de_call (Fg : FnG X.prog X.w X.K X.mg X.base k f fd ps (toSp X.K n sp)) (hn : ps.length = n) (hlen : ∀ ds M q e, sp ds M q e → ds.length = n) (hr : Room k X.A) (hG : X.A.guards = some []) (hg : Gl X x) (hm : X.mg x = some (.ref f))
    (hk : PySem.W.keepIn X.K (.ref f) = true) (hb : Binds X.K fd ps []) (tk : Takes X W) (ha : DA X W (e :: es) pl) (hdb : (x == ("__debug__" : Str)) = false := by decide)
    (he : starEach (e :: es) X.env = (false, eval e X.env) :: starEach es X.env := by rfl) (hpl : (backTo pos (starEach es X.env)).any (·.1) = false := by rfl) : DE X W (.Call (.Name x p) (e :: es) [] pos) (dCall sp [] pl) :=
  de_callD Fg hn hlen hr hG hg hm hk hb .nil (fun _ => rfl) tk ha hdb he hpl
end
end Px
set_option Elab.async false
set_option linter.all false
set_option maxRecDepth 100000
namespace Px
open PySem PySem.Spec PyProof.Rows L2
section
variable {X : Cx} {W : WX} {st1 : Stmt} {rest ss tt : List Stmt} {e c : Expr} {pe : PTE} {pl : PTA} {pt : PTT} {p p2 : PTS} {pos : Pos}
def dNext : PTS := fun _ P ρ M => P.nx ρ M
def dSeq (p q : PTS) : PTS := fun w P ρ M => p w { P with nx := q w P } ρ M
theorem dss_nil : DSs X W [] dNext := pss_imp pss_nil fun D σ H ⟨g, ρ, M, F, O, P, w, A, h, hw, k1, _⟩ => k1 σ H ρ M F O A (Same.refl F) h
theorem dss_one (h : DS X W st1 p) : DSs X W [st1] p := pss_one h
theorem dss_cons (h1 : DS X W st1 p) (h2 : DSs X W rest p2) : DSs X W (st1 :: rest) (dSeq p p2) := pss_imp (pss_cons h1 h2) fun D σ H ⟨g, ρ, M, F, O, P, w, A, h, hw, k1, k2, k3, k4, k5⟩ =>
  ⟨g, ρ, M, F, O, _, w, A, h, hw, fun σ' H' ρ' M' F' O' A' s q => ⟨g, ρ', M', F', O', P, w, A', q, hw.mono s,
      fun σ2 H2 ρ2 M2 F2 O2 A2 s2 q2 => k1 σ2 H2 ρ2 M2 F2 O2 A2 (s.trans s2) q2, fun v σ2 H2 ρ2 M2 F2 O2 d A2 s2 r2 q2 => k2 v σ2 H2 ρ2 M2 F2 O2 d A2 (s.trans s2) r2 q2,
      fun σ2 H2 ρ2 M2 F2 O2 A2 s2 q2 => k3 σ2 H2 ρ2 M2 F2 O2 A2 (s.trans s2) q2, fun σ2 H2 ρ2 M2 F2 O2 A2 s2 q2 => k4 σ2 H2 ρ2 M2 F2 O2 A2 (s.trans s2) q2, fun a xs σ2 H2 ρ2 M2 F2 O2 ds A2 s2 e1 e2 e3 e4 e5 q2 => k5 a xs σ2 H2 ρ2 M2 F2 O2 ds A2 (s.trans s2) e1 e2 e3 e4 e5 q2⟩, k2, k3, k4, k5⟩
def dRet (pe : PTE) : PTS := fun w P ρ M => pe w ρ M P.rt
theorem ds_ret (h : DE X W e pe) : DS X W (.Return (some e) pos) (dRet pe) := ps_imp (ps_ret h) fun D σ H ⟨g, ρ, M, F, O, P, w, A, h, hw, k1, k2, _⟩ =>
  ⟨g, ρ, M, F, O, _, w, A, h, hw, fun v H' F' O' M' d A' s r q => k2 v σ H' ρ M' F' O' d A' s r q⟩
def dRetN : PTS := fun _ P _ M => P.rt .non M
def dDrop (pe : PTE) : PTS := fun w P ρ M => pe w ρ M fun _ M' => P.nx ρ M'
theorem ds_expr (h : DE X W e pe) (hs : swapsWith e none pos.line X.env = pure false := by rfl) : DS X W (.Expr e pos) (dDrop pe) := ps_imp (ps_expr h hs) fun D σ H ⟨g, ρ, M, F, O, P, w, A, h, hw, k1, k2, _⟩ =>
  ⟨g, ρ, M, F, O, _, w, A, h, hw, fun v H' F' O' M' d A' s r q => k1 σ H' ρ M' F' O' A' s q⟩
def dIfS (pt : PTT) (p q : PTS) : PTS := fun w P ρ M => pt w ρ M fun b M' => if b = true then p w P ρ M' else q w P ρ M'
theorem ds_if (hc : DT X W c pt) (ha : DSs X W ss p) (hb : DSs X W tt p2) : DS X W (.If c ss tt pos) (dIfS pt p p2) := ps_imp (ps_if hc ha hb) fun D σ H ⟨g, ρ, M, F, O, P, w, A, h, hw, k1, k2, k3, k4, k5⟩ =>
  ⟨g, ρ, M, F, O, _, w, A, h, hw, fun b H' F' O' M' A' s q => by
    cases b with
    | true => exact ⟨g, ρ, M', F', O', P, w, A', q, hw.mono s, fun σ2 H2 ρ2 M2 F2 O2 A2 s2 q2 => k1 σ2 H2 ρ2 M2 F2 O2 A2 (s.trans s2) q2, fun v σ2 H2 ρ2 M2 F2 O2 d A2 s2 r2 q2 => k2 v σ2 H2 ρ2 M2 F2 O2 d A2 (s.trans s2) r2 q2,
      fun σ2 H2 ρ2 M2 F2 O2 A2 s2 q2 => k3 σ2 H2 ρ2 M2 F2 O2 A2 (s.trans s2) q2, fun σ2 H2 ρ2 M2 F2 O2 A2 s2 q2 => k4 σ2 H2 ρ2 M2 F2 O2 A2 (s.trans s2) q2, fun a xs σ2 H2 ρ2 M2 F2 O2 ds A2 s2 e1 e2 e3 e4 e5 q2 => k5 a xs σ2 H2 ρ2 M2 F2 O2 ds A2 (s.trans s2) e1 e2 e3 e4 e5 q2⟩
    | false => exact ⟨g, ρ, M', F', O', P, w, A', q, hw.mono s, fun σ2 H2 ρ2 M2 F2 O2 A2 s2 q2 => k1 σ2 H2 ρ2 M2 F2 O2 A2 (s.trans s2) q2, fun v σ2 H2 ρ2 M2 F2 O2 d A2 s2 r2 q2 => k2 v σ2 H2 ρ2 M2 F2 O2 d A2 (s.trans s2) r2 q2,
      fun σ2 H2 ρ2 M2 F2 O2 A2 s2 q2 => k3 σ2 H2 ρ2 M2 F2 O2 A2 (s.trans s2) q2, fun σ2 H2 ρ2 M2 F2 O2 A2 s2 q2 => k4 σ2 H2 ρ2 M2 F2 O2 A2 (s.trans s2) q2, fun a xs σ2 H2 ρ2 M2 F2 O2 ds A2 s2 e1 e2 e3 e4 e5 q2 => k5 a xs σ2 H2 ρ2 M2 F2 O2 ds A2 (s.trans s2) e1 e2 e3 e4 e5 q2⟩⟩
abbrev PTG := D → Rho → (Rho → Prop) → Prop
abbrev PTGs := List D → Rho → (Rho → Prop) → Prop
def realG (K : PySem.W.Frag) (is : List Nat) (gd : PTG) : TG := fun v σ H Q => ∃ g ρ M F O d k, Ab K g σ H ρ M F O ∧ Rp K F d v ∧ gd d ρ k ∧
  ∀ σ' ρ', Ab K g σ' H ρ' M F O → (∀ j, j ∉ is → σ'[j]? = σ[j]? ∧ gt ρ' j = gt ρ j) → σ'.length = σ.length → k ρ' → Q σ' H
def realGs (K : PySem.W.Frag) (is : List Nat) (gd : PTGs) : TGs := fun vs σ H Q => ∃ g ρ M F O ds k, Ab K g σ H ρ M F O ∧ RpL K F ds vs ∧ gd ds ρ k ∧
  ∀ σ' ρ', Ab K g σ' H ρ' M F O → (∀ j, j ∉ is → σ'[j]? = σ[j]? ∧ gt ρ' j = gt ρ j) → σ'.length = σ.length → k ρ' → Q σ' H
abbrev DG (X : Cx) (tg : Expr) (is : List Nat) (gd : PTG) : Prop := PG X tg (realG X.K is gd)
abbrev DGs (X : Cx) (tgs : List Expr) (is : List Nat) (gd : PTGs) : Prop := PGs X tgs (realGs X.K is gd)
theorem pg_imp {tg : Expr} {t t' : TG} (h : PG X tg t) (i : ∀ v σ H Q, t' v σ H Q → t v σ H Q) : PG X tg t' := ⟨fun pins s σ H v u Q I r hw => h.run pins s σ H v u Q I r (i v σ H Q hw)⟩
theorem pgs_imp {tgs : List Expr} {t t' : TGs} (h : PGs X tgs t) (i : ∀ v σ H Q, t' v σ H Q → t v σ H Q) : PGs X tgs t' := ⟨fun pins s σ H v u Q I r hw => h.run pins s σ H v u Q I r (i v σ H Q hw)⟩
def gNm (i : Nat) : PTG := fun d ρ k => k (st ρ i (.val d))
theorem dg_nm (i : Nat) {x : Str} (hN : X.N.Nodup) (hi : X.N[i]? = some x := by rfl) (hx : Loc X.env.scope x := by first | exact Or.inl rfl | exact Or.inr rfl) (hf : X.fn x = true ∨ X.env.scope.names.lookup x = some .local := by first | exact .inl rfl | exact .inr rfl) :
    DG X (.Name x pos) [i] (gNm i) := pg_imp (pg_name hN hi hx hf) fun v σ H Q ⟨g, ρ, M, F, O, d, k, A, r, h, q⟩ =>
  q _ _ (A.put r) (fun j hj => ⟨List.getElem?_set_ne (by intro z; exact hj (by simp [z])), gt_st_ne (by intro z; exact hj (by simp [z]))⟩) (List.length_set ..) h
def gsNil : PTGs := fun ds ρ k => match ds with | [] => k ρ | _ => False
def gsCons (gd : PTG) (gs : PTGs) : PTGs := fun ds ρ k => match ds with | d :: r => gd d ρ fun ρ' => gs r ρ' k | _ => False
theorem dgs_nil : DGs X [] [] gsNil := pgs_imp pgs_nil fun vs σ H Q ⟨g, ρ, M, F, O, ds, k, A, r, h, q⟩ => by
  cases ds with
  | nil => exact ⟨r, q σ ρ A (fun _ _ => ⟨rfl, rfl⟩) rfl h⟩
  | cons d r => exact (show False from h).elim
theorem dgs_cons {tg : Expr} {tgs : List Expr} {i1 i2 : List Nat} {gd : PTG} {gs : PTGs} (h1 : DG X tg i1 gd) (h2 : DGs X tgs i2 gs) (hs : (assignEach (tg :: tgs) X.env).map (·.2) = assign tg X.env :: (assignEach tgs X.env).map (·.2) := by rfl) : DGs X (tg :: tgs) (i1 ++ i2) (gsCons gd gs) :=
  pgs_imp (pgs_cons h1 h2 hs) fun vs σ H Q ⟨g, ρ, M, F, O, ds, k, A, r, h, q⟩ => by
    cases ds with
    | nil => exact (show False from h).elim
    | cons d ds =>
      obtain ⟨x, xs, e, rd, rl⟩ := r
      exact ⟨x, xs, e, g, ρ, M, F, O, d, _, A, rd, h, fun σ' ρ' A' n1 l1 h' => ⟨g, ρ', M, F, O, ds, k, A', rl, h', fun σ2 ρ2 A2 n2 l2 h2 =>
        q σ2 ρ2 A2 (fun j hj => ⟨(n2 j fun z => hj (List.mem_append_right _ z)).1.trans (n1 j fun z => hj (List.mem_append_left _ z)).1, (n2 j fun z => hj (List.mem_append_right _ z)).2.trans (n1 j fun z => hj (List.mem_append_left _ z)).2⟩) (l2.trans l1) h2⟩⟩
def gTp (n : Nat) (gs : PTGs) : PTG := fun d ρ k => match d with | .tup l => l.length = n ∧ gs l ρ k | _ => False
theorem dg_tup {es : List Expr} {k : Nat} {n : Nat} {is : List Nat} {gs : PTGs} (hc : X.calm = true) (h : DGs X es is gs) (hn : (assignEach es X.env).length = n := by rfl) (hst : (assignEach es X.env).findIdx? (·.1) = none := by rfl) : DG X (.Tuple es k pos) is (gTp n gs) :=
  pg_imp (pg_tup hc h hn hst) fun v σ H Q ⟨g, ρ, M, F, O, d, k, A, r, h, q⟩ => by
    cases d with
    | tup l =>
      obtain ⟨a, xs, e, s, rl⟩ := r
      exact ⟨a, xs, e, same_t A.sub s, by rw [← rl.len]; exact h.1, g, ρ, M, F, O, l, k, A, rl, h.2, q⟩
    | _ => exact (show False from h).elim
def dAsg (pe : PTE) (gd : PTG) : PTS := fun w P ρ M => pe w ρ M fun d M' => gd d ρ fun ρ' => P.nx ρ' M'
theorem ds_asg {tg : Expr} {is : List Nat} {gd : PTG} (he : DE X W e pe) (hg : DG X tg is gd) (hs : swapsWithSole [tg] e pos.line X.env = pure false := by rfl) (hw : swappedStores [tg] e X.env = pure none := by rfl)
    (h1 : (assignEach [tg] X.env).map (·.2) = [assign tg X.env] := by rfl) : DS X W (.Assign [tg] e pos) (dAsg pe gd) := ps_imp (ps_asg he hg hs hw h1) fun D σ H ⟨g, ρ, M, F, O, P, w, A, h, hw, k1, _⟩ =>
  ⟨g, ρ, M, F, O, _, w, A, h, hw, fun v H' F' O' M' d A' s r q => ⟨g, ρ, M', F', O', d, _, A', r, q, fun σ' ρ' A2 _ _ q2 => k1 σ' H' ρ' M' F' O' A2 s q2⟩⟩
def dSet (i : Nat) (pe : PTE) : PTS := fun w P ρ M => pe w ρ M fun d M' => P.nx (st ρ i (.val d)) M'
theorem ds_set (i : Nat) {x : Str} {pos' : Pos} (hN : X.N.Nodup) (he : DE X W e pe) (hi : X.N[i]? = some x := by rfl) (hx : Loc X.env.scope x := by first | exact Or.inl rfl | exact Or.inr rfl) (hs : swapsWith e (some (.Name x pos')) pos.line X.env = pure false := by rfl)
    (hf : X.fn x = true ∨ X.env.scope.names.lookup x = some .local := by first | exact .inl rfl | exact .inr rfl) : DS X W (.Assign [.Name x pos'] e pos) (dSet i pe) := ps_imp (ps_set hN hi hx he hs hf) fun D σ H ⟨g, ρ, M, F, O, P, w, A, h, hw, k1, _⟩ =>
  ⟨g, ρ, M, F, O, _, w, A, h, hw, fun v H' F' O' M' d A' s r q => k1 _ H' _ M' F' O' (A'.put r) s q⟩
def dSetO (i : Nat) (pl : PTA) : PTS := fun w P ρ M => pl w ρ M fun ds M' => P.nx (st ρ i (.own ds)) M'
theorem ds_setO (i : Nat) {x : Str} {pos' : Pos} (hN : X.N.Nodup) (he : DL X W e pl) (hi : X.N[i]? = some x := by rfl) (hx : Loc X.env.scope x := by first | exact Or.inl rfl | exact Or.inr rfl) (hs : swapsWith e (some (.Name x pos')) pos.line X.env = pure false := by rfl)
    (hf : X.fn x = true ∨ X.env.scope.names.lookup x = some .local := by first | exact .inl rfl | exact .inr rfl) : DS X W (.Assign [.Name x pos'] e pos) (dSetO i pl) := ps_imp (ps_set hN hi hx he hs hf) fun D σ H ⟨g, ρ, M, F, O, P, w, A, h, hw, k1, _⟩ =>
  ⟨g, ρ, M, F, O, _, w, A, h, hw, fun a xs H' F' O' M' ds A' s hH r hF hO h0 q => k1 _ H' _ M' F' _ (A'.putOwn hH r hF hO h0) s q⟩
def ls2 (ds : List D) (k : D → D → Prop) : Prop := match ds with | [a, b] => k a b | _ => False
def ls3 (ds : List D) (k : D → D → D → Prop) : Prop := match ds with | [a, b, c] => k a b c | _ => False
theorem ls2_of {ds : List D} {k : D → D → Prop} (h : ls2 ds k) : ∃ a b, ds = [a, b] ∧ k a b := by
  unfold ls2 at h
  split at h
  · exact ⟨_, _, rfl, h⟩
  · exact h.elim
def dPar (i j : Nat) (pl : PTA) : PTS := fun w P ρ M => pl w ρ M fun ds M' => ls2 ds fun a b => P.nx (st (st ρ i (.val a)) j (.val b)) M'
theorem ds_par (i j : Nat) {x y : Str} {a b : Expr} {px py pt : Pos} {kt k2 pt2} (hc : X.calm = true) (hN : X.N.Nodup) (ha : DA X W [a, b] pl) (hi : X.N[i]? = some x := by rfl) (hj : X.N[j]? = some y := by rfl) (hij : i ≠ j := by decide)
    (hx : X.env.scope.names.lookup x = some .local := by rfl) (hy : X.env.scope.names.lookup y = some .local := by rfl)
    (hw : swappedStores [.Tuple [.Name x px, .Name y py] kt pt] (.Tuple [a, b] k2 pt2) X.env = pure (some [x, y]) := by rfl)
    (hs : swapsWithSole [.Tuple [.Name x px, .Name y py] kt pt] (.Tuple [a, b] k2 pt2) pos.line X.env = pure false := by rfl) : DS X W (.Assign [.Tuple [.Name x px, .Name y py] kt pt] (.Tuple [a, b] k2 pt2) pos) (dPar i j pl) :=
  ps_imp (ps_par hc hN hi hj hij hx hy ha hw hs) fun D σ H ⟨g, ρ, M, F, O, P, w, A, h, hw, k1, _⟩ =>
  ⟨g, ρ, M, F, O, _, w, A, h, hw, fun vs H' F' O' M' ds A' s r q => by
      obtain ⟨a, b, rfl, q⟩ := ls2_of q
      obtain ⟨v, x1, e1, ra, u, x2, e2, rb, e3⟩ := r
      have e3 : x2 = [] := e3
      subst e3 e2 e1
      exact ⟨v, u, rfl, k1 _ H' _ M' F' O' ((A'.put ra).put rb) s q⟩⟩
def dPar3 (i j l : Nat) (pl : PTA) : PTS := fun w P ρ M => pl w ρ M fun ds M' => ls3 ds fun a b c => P.nx (st (st (st ρ i (.val a)) j (.val b)) l (.val c)) M'
def dFrz (i : Nat) (p : PTS) : PTS := fun w P ρ M => match gt ρ i with | some (.own l) => p w P (st ρ i (.val (.lst l))) M | _ => p w P ρ M
theorem frz_run {K : PySem.W.Frag} {i : Nat} {D : Ends} {σ : L2.St} {H : Hp} (h : realS K W (dFrz i p) D σ H) : realS K W p D σ H := by
  obtain ⟨g, ρ, M, F, O, P, w, A, h, hw, k1, k2, k3, k4, k5⟩ := h
  unfold dFrz at h
  split at h
  · rename_i l e
    obtain ⟨F', O', A', s⟩ := A.frz e
    exact ⟨g, _, M, F', O', P, w, A', h, hw.mono s, fun σ2 H2 ρ2 M2 F2 O2 A2 s2 q2 => k1 σ2 H2 ρ2 M2 F2 O2 A2 (s.trans s2) q2, fun v σ2 H2 ρ2 M2 F2 O2 d A2 s2 r2 q2 => k2 v σ2 H2 ρ2 M2 F2 O2 d A2 (s.trans s2) r2 q2,
      fun σ2 H2 ρ2 M2 F2 O2 A2 s2 q2 => k3 σ2 H2 ρ2 M2 F2 O2 A2 (s.trans s2) q2, fun σ2 H2 ρ2 M2 F2 O2 A2 s2 q2 => k4 σ2 H2 ρ2 M2 F2 O2 A2 (s.trans s2) q2, fun a xs σ2 H2 ρ2 M2 F2 O2 ds A2 s2 e1 e2 e3 e4 e5 q2 => k5 a xs σ2 H2 ρ2 M2 F2 O2 ds A2 (s.trans s2) e1 e2 e3 e4 e5 q2⟩
  · exact ⟨g, ρ, M, F, O, P, w, A, h, hw, k1, k2, k3, k4, k5⟩
theorem ds_frz (i : Nat) (h : DS X W st1 p) : DS X W st1 (dFrz i p) := ps_imp h fun D σ H hh => frz_run hh
def dWhile (pt : PTT) (pb : PTS) : PTS := fun w P ρ M => ∃ V : Nat → Rho → Mm → Prop, (∃ m, V m ρ M) ∧ ∀ m ρ M, V m ρ M → pt w ρ M fun b M' =>
  if b = true then pb w { P with nx := fun ρ2 M2 => ∃ m', m' < m ∧ V m' ρ2 M2, ct := fun ρ2 M2 => ∃ m', m' < m ∧ V m' ρ2 M2, bk := P.nx } ρ M' else P.nx ρ M'
theorem ds_while (hp : PassesOwn (model X.prog X.w) X.A X.env X.xe) (hc : DT X W c pt) (hb : DSs X W ss p) : DS X W (.While c ss [] pos) (dWhile pt p) := ps_imp (ps_while hp hc hb) fun D σ H ⟨g, ρ, M, F, O, P, w, A, ⟨V, ⟨m0, v0⟩, turn⟩, hw, k1, k2, k3, k4, k5⟩ => by
  refine ⟨fun m σ' H' => ∃ ρ' M' F' O', Ab X.K g σ' H' ρ' M' F' O' ∧ Same F F' ∧ V m ρ' M', ⟨m0, ρ, M, F, O, A, Same.refl F, v0⟩, ?_⟩
  rintro m σ1 H1 ⟨ρ1, M1, F1, O1, A1, s1, v1⟩
  refine ⟨g, ρ1, M1, F1, O1, _, w, A1, turn m ρ1 M1 v1, hw.mono s1, fun b H2 F2 O2 M2 A2 s2 q => ?_⟩
  cases b with
  | true =>
    rw [if_pos rfl] at q ⊢
    refine ⟨fun σ' H' => ∃ m', m' < m ∧ ∃ ρ' M' F' O', Ab X.K g σ' H' ρ' M' F' O' ∧ Same F F' ∧ V m' ρ' M', fun σ' H' h => h, ?_⟩
    refine ⟨g, ρ1, M2, F2, O2, _, w, A2, q, (hw.mono s1).mono s2, ?_, ?_, ?_, ?_, fun a xs σ3 H3 ρ3 M3 F3 O3 ds A3 s3 e1 e2 e3 e4 e5 q3 => k5 a xs σ3 H3 ρ3 M3 F3 O3 ds A3 ((s1.trans s2).trans s3) e1 e2 e3 e4 e5 q3⟩
    · intro σ3 H3 ρ3 M3 F3 O3 A3 s3 ⟨m', hm, v3⟩
      exact ⟨m', hm, ρ3, M3, F3, O3, A3, (s1.trans s2).trans s3, v3⟩
    · intro v σ3 H3 ρ3 M3 F3 O3 d A3 s3 r3 q3
      exact k2 v σ3 H3 ρ3 M3 F3 O3 d A3 ((s1.trans s2).trans s3) r3 q3
    · intro σ3 H3 ρ3 M3 F3 O3 A3 s3 q3
      exact k1 σ3 H3 ρ3 M3 F3 O3 A3 ((s1.trans s2).trans s3) q3
    · intro σ3 H3 ρ3 M3 F3 O3 A3 s3 ⟨m', hm, v3⟩
      exact ⟨m', hm, ρ3, M3, F3, O3, A3, (s1.trans s2).trans s3, v3⟩
  | false =>
    rw [if_neg Bool.false_ne_true] at q ⊢
    exact k1 σ1 H2 ρ1 M2 F2 O2 A2 (s1.trans s2) q
end
structure Wk (K : PySem.W.Frag) (J : It) (F : Hp) (ds : List D) : Prop where
  go : ∀ g σ ρ M F' O H i, Ab K g σ H ρ M F' O → Same F F' → i < ds.length → J.go i H
  yl : ∀ g σ ρ M F' O H i x H' d, Ab K g σ H ρ M F' O → Same F F' → J.yld i H x H' → ds[i]? = some d → ∃ F2, Ab K g σ H' ρ M F2 O ∧ Same F' F2 ∧ Rp K F2 d x
  sp : ∀ g σ ρ M F' O H, Ab K g σ H ρ M F' O → Same F F' → J.stop ds.length H
def realI (K : PySem.W.Frag) (W : WX) (p : PTA) : TI := fun σ H R => ∃ g ρ M F O q w, Ab K g σ H ρ M F O ∧ p w ρ M q ∧ WOk K g F W w ∧
  ∀ J H' F' O' M' ds, Ab K g σ H' ρ M' F' O' → Same F F' → Wk K J F' ds → q ds M' → R J H'
abbrev DI (X : Cx) (W : WX) (tg e : Expr) (p : PTA) : Prop := PI X tg e (realI X.K W p)
section
variable {X : Cx} {W : WX} {tg e a b : Expr} {pe pa pb : PTE} {pl : PTA} {pos p : Pos}
theorem pi_imp {t t' : TI} (h : PI X tg e t) (i : ∀ σ H R, t' σ H R → t σ H R) : PI X tg e t' := ⟨fun pins s σ H R I hw => h.run pins s σ H R I (i σ H R hw)⟩
theorem wk_list {K : PySem.W.Frag} {F : Hp} {a : Addr} {xs : List V} {ds : List D} (h : SqL K F a xs) (r : RpL K F ds xs) : Wk K (Itl K a) F ds where
  go := fun g σ ρ M F' O H i A s hi => ⟨xs, xs[i]'(by rw [← r.len]; exact hi), same_l (s.trans A.sub) h, List.getElem?_eq_getElem _⟩
  yl := fun g σ ρ M F' O H i x H' d A s ⟨e, hx⟩ hd => by
    obtain ⟨y, h1, h2⟩ := r.get hd
    have e2 := hx xs (same_l (s.trans A.sub) h)
    rw [h1] at e2
    cases e2
    exact ⟨F', by rw [e]; exact A, Same.refl F', Rp.mono s _ _ h2⟩
  sp := fun g σ ρ M F' O H A s => ⟨xs, same_l (s.trans A.sub) h, Nat.le_of_eq r.len.symm⟩
theorem wk_tup {K : PySem.W.Frag} {F : Hp} {a : Addr} {xs : List V} {ds : List D} (h : SqT K F a xs) (r : RpL K F ds xs) : Wk K (Itt K a) F ds where
  go := fun g σ ρ M F' O H i A s hi => ⟨xs, xs[i]'(by rw [← r.len]; exact hi), same_t (s.trans A.sub) h, List.getElem?_eq_getElem _⟩
  yl := fun g σ ρ M F' O H i x H' d A s ⟨e, hx⟩ hd => by
    obtain ⟨y, h1, h2⟩ := r.get hd
    have e2 := hx xs (same_t (s.trans A.sub) h)
    rw [h1] at e2
    cases e2
    exact ⟨F', by rw [e]; exact A, Same.refl F', Rp.mono s _ _ h2⟩
  sp := fun g σ ρ M F' O H A s => ⟨xs, same_t (s.trans A.sub) h, Nat.le_of_eq r.len.symm⟩
def rngD (lo : Int) (n : Nat) : List D := (List.range n).map fun (i : Nat) => .int (lo + (i : Int))
theorem wk_range {K : PySem.W.Frag} {F : Hp} {lo : Int} {n : Nat} : Wk K (Itr lo n) F (rngD lo n) where
  go := fun g σ ρ M F' O H i A s hi => by
    unfold rngD at hi
    rw [List.length_map, List.length_range] at hi
    exact hi
  yl := fun g σ ρ M F' O H i x H' d A s ⟨e, hx⟩ hd => by
    subst e
    unfold rngD at hd
    rw [List.getElem?_map] at hd
    cases q : (List.range n)[i]? with
    | none => rw [q] at hd; cases hd
    | some j =>
      rw [q] at hd
      cases hd
      have e2 : j = i := by
        obtain ⟨h1, h2⟩ := List.getElem?_eq_some_iff.mp q
        rw [List.getElem_range] at h2
        exact h2.symm
      subst e2
      exact ⟨F', A, Same.refl F', hx⟩
  sp := fun g σ ρ M F' O H A s => by
    unfold rngD
    rw [List.length_map, List.length_range]
    exact Nat.le_refl _
def iL (pe : PTE) : PTA := fun w ρ M q => pe w ρ M fun d M' => match d with | .lst l => q l M' | .scr ns => q (ns.map .int) M' | _ => False
theorem di_list (h : DE X W e pe) : DI X W tg e (iL pe) := pi_imp (pi_list h) fun σ H R ⟨g, ρ, M, F, O, q, w, A, pr, hw, k⟩ =>
  ⟨g, ρ, M, F, O, _, w, A, pr, hw, fun v H' F' O' M' d A' s r q => by
    cases d with
    | lst l =>
      obtain ⟨a, xs, e, hs, rl⟩ := r
      exact ⟨a, e, ⟨xs, .inl (.inl (A'.sub _ _ hs))⟩, k _ H' F' O' M' l A' s (wk_list (.inl (.inl hs)) rl) q⟩
    | scr ns =>
      obtain ⟨a, e, hs⟩ := r
      exact ⟨a, e, ⟨_, same_l A'.sub hs⟩, k _ H' F' O' M' _ A' s (wk_list hs (RpL.of_ints ns)) q⟩
    | _ => exact (show False from q).elim⟩
def iR1 (pa : PTE) : PTA := fun w ρ M q => pa w ρ M fun d M' => match d with | .int n => -1000000 ≤ n ∧ n ≤ 1000000 ∧ q (rngD 0 n.toNat) M' | _ => False
theorem di_r1 (hg : Gl X "range") (hm : X.mg "range" = none) (ha : DE X W a pa) (he : starEach [a] X.env = (false, eval a X.env) :: starEach [] X.env := by rfl) (hs : starEach [a] X.env = [(false, eval a X.env)] := by rfl) : DI X W tg (.Call (.Name "range" p) [a] [] pos) (iR1 pa) :=
  pi_imp (pi_range1 hg hm (pa_cons ha pa_nil he) hs) fun σ H R ⟨g, ρ, M, F, O, q, w, A, pr, hw, k⟩ =>
  ⟨g, ρ, M, F, O, _, w, A, pr, hw, fun v H' F' O' M' d A' s r q => by
    cases d with
    | int n => exact ⟨n, by rw [show v = .int n from r], by have := q.1; omega, by have := q.2.1; omega, k _ H' F' O' M' _ A' s wk_range q.2.2⟩
    | _ => exact (show False from q).elim⟩
def enumD : Nat → List D → List D
  | _, [] => []
  | n, d :: r => .tup [.int n, d] :: enumD (n + 1) r
theorem enumD_get : ∀ (l : List D) (n i : Nat), (enumD n l)[i]? = (l[i]?).map fun d => .tup [.int ((n + i : Nat) : Int), d]
  | [], n, i => by simp [enumD]
  | d :: r, n, 0 => by simp [enumD]
  | d :: r, n, i + 1 => by
    show (enumD (n + 1) r)[i]? = _
    rw [enumD_get r (n + 1) i]
    have e : n + 1 + i = n + (i + 1) := by omega
    rw [e]
    rfl
theorem enumD_len : ∀ (l : List D) (n : Nat), (enumD n l).length = l.length
  | [], _ => rfl
  | d :: r, n => by show (enumD (n + 1) r).length + 1 = _; rw [enumD_len r]; rfl
theorem wk_enum {K : PySem.W.Frag} {F : Hp} {a : Addr} {xs : List V} {ds : List D} (h : SqL K F a xs) (r : RpL K F ds xs) : Wk K (Ite K a) F (enumD 0 ds) where
  go := fun g σ ρ M F' O H i A s hi => by
    rw [enumD_len] at hi
    exact ⟨xs, xs[i]'(by rw [← r.len]; exact hi), same_l (s.trans A.sub) h, List.getElem?_eq_getElem _⟩
  yl := fun g σ ρ M F' O H i x H' d A s ⟨T, y, ex, hT, eH, hx⟩ hd => by
    rw [enumD_get] at hd
    cases q : ds[i]? with
    | none => rw [q] at hd; cases hd
    | some d0 =>
      rw [q] at hd
      cases hd
      obtain ⟨z, h1, h2⟩ := r.get q
      have e2 := hx xs (same_l (s.trans A.sub) h)
      rw [h1] at e2
      have e3 : z = y := Option.some.inj e2
      subst e3 eH ex
      have sn := same_new (o := .tup [.int (i : Nat), z]) (A.f0 hT)
      exact ⟨_, A.lay hT, sn, T, _, rfl, .inl (.inl upd_same), .int (i : Nat), _, rfl, by rw [Nat.zero_add]; rfl, z, _, rfl, Rp.mono (s.trans sn) _ _ h2, rfl⟩
  sp := fun g σ ρ M F' O H A s => ⟨xs, same_l (s.trans A.sub) h, by rw [enumD_len, r.len]; exact Nat.le_refl _⟩
end
def forR (gd : PTG) (pb : PTS) (w : PWi) : List D → PEnds → Rho → Mm → Prop
  | [], P, ρ, M => P.nx ρ M
  | x :: r, P, ρ, M => gd x ρ fun ρ' => pb w { P with nx := forR gd pb w r P, ct := forR gd pb w r P, bk := P.nx } ρ' M
def dFor (pl : PTA) (gd : PTG) (pb : PTS) : PTS := fun w P ρ M => pl w ρ M fun ds M' => forR gd pb w ds P ρ M'
section
variable {X : Cx} {W : WX} {tg e : Expr} {ss : List Stmt} {pl : PTA} {gd : PTG} {is : List Nat} {pb : PTS} {pos : Pos}
theorem forR_at {w : PWi} {ds : List D} {P : PEnds} {ρ : Rho} {M : Mm} {i : Nat} {d : D} (h : ds[i]? = some d) (q : forR gd pb w (ds.drop i) P ρ M) :
    gd d ρ fun ρ' => pb w { P with nx := forR gd pb w (ds.drop (i + 1)) P, ct := forR gd pb w (ds.drop (i + 1)) P, bk := P.nx } ρ' M := by
  obtain ⟨hi, e⟩ := List.getElem?_eq_some_iff.mp h
  rw [List.drop_eq_getElem_cons hi, e] at q
  exact q
theorem ds_for (hp : PassesOwn (model X.prog X.w) X.A X.env X.xe) (hc : X.calm = true) (hi : DI X W tg e pl) (hg : DG X tg is gd) (hb : DSs X W ss pb) (hs : ∀ x, foldedSetIterable e X.env x = pure x := by intro _; rfl) : DS X W (.For tg e ss [] pos) (dFor pl gd pb) :=
  ps_imp (ps_for hp hc hi hg hb hs) fun D σ H ⟨g, ρ, M, F, O, P, w, A, h, hw, k1, k2, k3, k4, k5⟩ =>
  ⟨g, ρ, M, F, O, _, w, A, h, hw, fun J H1 F1 O1 M1 ds A1 s1 wk q => by
    refine ⟨fun i m σ' H' => ∃ ρ' M' F' O', Ab X.K g σ' H' ρ' M' F' O' ∧ Same F1 F' ∧ i ≤ ds.length ∧ m = ds.length - i ∧ forR gd pb w (ds.drop i) P ρ' M',
      ⟨ds.length, ρ, M1, F1, O1, A1, Same.refl F1, Nat.zero_le _, rfl, q⟩, ?_⟩
    rintro i m σ2 H2 ⟨ρ2, M2, F2, O2, A2, s2, hi2, rfl, q2⟩
    by_cases hlt : i < ds.length
    · refine .inr ⟨wk.go _ _ _ _ _ _ _ i A2 s2 hlt, fun σ' H' => ∃ ρ' M' F' O', Ab X.K g σ' H' ρ' M' F' O' ∧ Same F1 F' ∧ forR gd pb w (ds.drop (i + 1)) P ρ' M', ?_, ?_⟩
      · rintro σ' H' ⟨ρ', M', F', O', A', s', q'⟩
        exact ⟨ds.length - (i + 1), by omega, ρ', M', F', O', A', s', hlt, rfl, q'⟩
      · intro x H3 y3
        have hd := List.getElem?_eq_getElem hlt
        obtain ⟨F3, A3, s3, r3⟩ := wk.yl _ _ _ _ _ _ _ i x H3 _ A2 s2 y3 hd
        have q3 := forR_at hd q2
        have w3 : WOk X.K g F3 W w := (hw.mono s1).mono (s2.trans s3)
        refine ⟨g, ρ2, M2, F3, O2, _, _, A3, r3, q3, fun σ4 ρ4 A4 _ _ q4 => ⟨g, ρ4, M2, F3, O2, _, w, A4, q4, w3, ?_, ?_, ?_, ?_, fun a xs σ5 H5 ρ5 M5 F5 O5 ds A5 s5 e1 e2 e3 e4 e5 q5 => k5 a xs σ5 H5 ρ5 M5 F5 O5 ds A5 (s1.trans ((s2.trans s3).trans s5)) e1 e2 e3 e4 e5 q5⟩⟩
        · intro σ5 H5 ρ5 M5 F5 O5 A5 s5 q5
          exact ⟨ρ5, M5, F5, O5, A5, (s2.trans s3).trans s5, q5⟩
        · intro v σ5 H5 ρ5 M5 F5 O5 d A5 s5 r5 q5
          exact k2 v σ5 H5 ρ5 M5 F5 O5 d A5 (s1.trans ((s2.trans s3).trans s5)) r5 q5
        · intro σ5 H5 ρ5 M5 F5 O5 A5 s5 q5
          exact k1 σ5 H5 ρ5 M5 F5 O5 A5 (s1.trans ((s2.trans s3).trans s5)) q5
        · intro σ5 H5 ρ5 M5 F5 O5 A5 s5 q5
          exact ⟨ρ5, M5, F5, O5, A5, (s2.trans s3).trans s5, q5⟩
    · have e : i = ds.length := by omega
      subst e
      rw [List.drop_length] at q2
      exact .inl ⟨wk.sp _ _ _ _ _ _ _ A2 s2, k1 σ2 H2 ρ2 M2 F2 O2 A2 (s1.trans s2) q2⟩⟩
end
end Px
set_option Elab.async false
set_option linter.all false
set_option maxRecDepth 100000
namespace Px
open PySem PySem.Spec PyProof.Rows L2
def un : Rho → Nat → Rho
  | [], _ => []
  | _ :: r, 0 => none :: r
  | x :: r, n + 1 => x :: un r n
def uns (ρ : Rho) : List Nat → Rho
  | [] => ρ
  | v :: vs => un (uns ρ vs) v
theorem un_len : ∀ (ρ : Rho) (i : Nat), (un ρ i).length = ρ.length
  | [], _ => rfl
  | _ :: r, 0 => rfl
  | x :: r, n + 1 => by show (un r n).length + 1 = _; rw [un_len r n]; rfl
theorem uns_len (ρ : Rho) : ∀ vs : List Nat, (uns ρ vs).length = ρ.length
  | [] => rfl
  | v :: vs => by show (un (uns ρ vs) v).length = _; rw [un_len, uns_len ρ vs]
theorem gt_un_ne : ∀ {ρ : Rho} {i j : Nat}, j ≠ i → gt (un ρ i) j = gt ρ j
  | [], _, _, _ => rfl
  | _ :: r, 0, 0, h => absurd rfl h
  | _ :: r, 0, j + 1, _ => rfl
  | x :: r, n + 1, 0, _ => rfl
  | x :: r, n + 1, j + 1, h => gt_un_ne (ρ := r) fun e => h (by rw [e])
theorem gt_un_self : ∀ {ρ : Rho} {i : Nat}, gt (un ρ i) i = none
  | [], _ => rfl
  | _ :: r, 0 => rfl
  | x :: r, n + 1 => gt_un_self (ρ := r)
theorem gt_uns {ρ : Rho} {j : Nat} : ∀ {vs : List Nat}, (j ∉ vs → gt (uns ρ vs) j = gt ρ j) ∧ (j ∈ vs → gt (uns ρ vs) j = none)
  | [] => ⟨fun _ => rfl, fun h => nomatch h⟩
  | v :: vs => by
    obtain ⟨h1, h2⟩ := gt_uns (ρ := ρ) (j := j) (vs := vs)
    by_cases e : j = v
    · subst e
      exact ⟨fun h => absurd List.mem_cons_self h, fun _ => gt_un_self⟩
    · have q : gt (uns ρ (v :: vs)) j = gt (uns ρ vs) j := gt_un_ne e
      rw [q]
      exact ⟨fun h => h1 fun z => h (List.mem_cons_of_mem _ z), fun h => h2 ((List.mem_cons.mp h).resolve_left e)⟩
theorem wipe_at {σ : L2.St} {j : Nat} : ∀ {vs : List Nat}, (j ∉ vs → (wipe σ vs)[j]? = σ[j]?) ∧ (j ∈ vs → j < σ.length → (wipe σ vs)[j]? = some none)
  | [] => ⟨fun _ => rfl, fun h => nomatch h⟩
  | v :: vs => by
    obtain ⟨h1, h2⟩ := wipe_at (σ := σ) (j := j) (vs := vs)
    show (j ∉ v :: vs → ((wipe σ vs).set v none)[j]? = σ[j]?) ∧ (j ∈ v :: vs → j < σ.length → ((wipe σ vs).set v none)[j]? = some none)
    by_cases e : j = v
    · subst e
      exact ⟨fun h => absurd List.mem_cons_self h, fun _ hl => List.getElem?_set_self (by rw [wipe_length]; exact hl)⟩
    · rw [List.getElem?_set_ne (Ne.symm e)]
      exact ⟨fun h => h1 fun z => h (List.mem_cons_of_mem _ z), fun h => h2 ((List.mem_cons.mp h).resolve_left e)⟩
theorem wipe_eq {σ σ' : L2.St} {vs : List Nat} (hl : σ'.length = σ.length) (h : ∀ j, j ∉ vs → σ'[j]? = (wipe σ vs)[j]?) : wipe σ' vs = wipe σ vs := by
  refine List.ext_getElem? fun j => ?_
  by_cases hj : j ∈ vs
  · by_cases hlt : j < σ.length
    · rw [(wipe_at (vs := vs)).2 hj hlt, (wipe_at (vs := vs)).2 hj (by rw [hl]; exact hlt)]
    · rw [List.getElem?_eq_none (by rw [wipe_length]; omega), List.getElem?_eq_none (by rw [wipe_length]; omega)]
  · rw [(wipe_at (vs := vs)).1 hj]
    exact h j hj
def okW (ρ : Rho) (vs : List Nat) : Bool := vs.all fun v => match gt ρ v with | some (.own _) => false | _ => true
section
variable {K : PySem.W.Frag} {g g0 : Gh} {σ : L2.St} {H H0 : Hp} {ρ : Rho} {M M0 : Mm} {F F0 : Hp} {O O0 : Own} {D0 : Addr} {l l' : List D} {xs ys : List V}
theorem Ab.wiped (A : Ab K g σ H ρ M F O) (vs : List Nat) : Ab K g (wipe σ vs) H (uns ρ vs) M F O :=
  { toWd := A.toWd, len := by rw [uns_len, wipe_length]; exact A.len, sl := fun i sv e => by
      by_cases h : i ∈ vs
      · rw [gt_uns.2 h] at e; cases e
      · rw [gt_uns.1 h] at e
        obtain ⟨v, e1, r⟩ := A.sl i sv e
        exact ⟨v, by rw [wipe_at.1 h]; exact e1, r⟩ }
theorem Ab.unwiped {vs : List Nat} (A : Ab K g (wipe σ vs) H (uns ρ vs) M F O) (A0 : Ab K g0 σ H0 ρ M0 F0 O0) (s : Same F0 F) (h : okW ρ vs = true) : Ab K g σ H ρ M F O :=
  { toWd := A.toWd, len := A0.len, sl := fun i sv e => by
      by_cases hi : i ∈ vs
      · obtain ⟨v, e1, r⟩ := A0.sl i sv e
        refine ⟨v, e1, ?_⟩
        have z := List.all_eq_true.mp h i hi
        rw [e] at z
        cases sv with
        | val d => exact Rp.mono s d v r
        | own l => cases z
      · obtain ⟨v, e1, r⟩ := A.sl i sv (by rw [gt_uns.1 hi]; exact e)
        exact ⟨v, by rw [wipe_at.1 hi] at e1; exact e1, r⟩ }
theorem Ab.congr {ρ' : Rho} (A : Ab K g σ H ρ M F O) (hl : ρ'.length = ρ.length) (h : ∀ j, gt ρ' j = gt ρ j) : Ab K g σ H ρ' M F O :=
  { toWd := A.toWd, len := hl.trans A.len, sl := fun i sv e => A.sl i sv (by rw [← h]; exact e) }
theorem Ab.tmpNew (A : Ab K g σ H ρ M F O) (h : H D0 = some (.lst xs)) (r : RpL K F l xs) (hF : F D0 = none) (hO : O D0 = none) (h0 : g.H0 D0 = none) :
    Ab K { g with tmp := (D0, l) :: g.tmp } σ H ρ M F (fun b => if b = D0 then some .tmp else O b) := by
  have keep : ∀ b u, O b = some u → (if b = D0 then some Ow.tmp else O b) = some u := fun b u e => by rw [if_neg (fun z => by rw [z, hO] at e; cases e)]; exact e
  exact { sub := A.sub, ext0 := A.ext0, new := A.new, frm := A.frm, thr := A.thr
          liv := fun b u e => by
            by_cases z : b = D0
            · subst z; exact ⟨⟨_, h⟩, hF, .inr h0⟩
            · rw [if_neg z] at e; exact A.liv b u e
          slo := fun b u e n => by
            by_cases z : b = D0
            · subst z; exact h0
            · rw [if_neg z] at e; exact A.slo b u e n
          tm := fun p l' e => by
            rcases List.mem_cons.mp e with z | z
            · cases z; exact ⟨xs, h, r, if_pos rfl⟩
            · obtain ⟨ys, e1, e2, e3⟩ := A.tm p l' z
              exact ⟨ys, e1, e2, keep p _ e3⟩
          mu := fun b mo e => (A.mu b mo e).mono (Same.refl F) fun q u e1 e2 => ⟨e1, keep q _ e2⟩
          len := A.len
          sl := fun j sv e => by
            obtain ⟨v, e1, r⟩ := A.sl j sv e
            exact ⟨v, e1, r.mono (Same.refl F) fun q xs e1 e2 => ⟨e1, keep q _ e2⟩⟩ }
theorem Ab.grow (A : Ab K { g with tmp := (D0, l) :: g.tmp } σ H ρ M F O) (nd : ∀ q ∈ g.tmp, q.1 ≠ D0) (r : RpL K F l' ys) : Ab K { g with tmp := (D0, l') :: g.tmp } σ (upd H D0 (.lst ys)) ρ M F O := by
  obtain ⟨xs, h, _, hO⟩ := A.tm D0 l List.mem_cons_self
  have h0 : g.H0 D0 = none := A.slo D0 _ hO (fun _ z => by cases z)
  obtain ⟨_, hF, _⟩ := A.liv D0 _ hO
  have ne : ∀ b u, O b = some u → u ≠ .tmp → b ≠ D0 := fun b u e n z => by rw [z, hO] at e; exact n (Option.some.inj e).symm
  exact { sub := fun b u e => by rw [upd_ne (fun z => by rw [z, hF] at e; cases e)]; exact A.sub b u e
          ext0 := A.ext0, new := A.new
          frm := fun b u e n => by
            have e' : g.H0 b = some u := e
            rw [upd_ne (fun z => by rw [z, h0] at e'; cases e')]; exact A.frm b u e n
          thr := fun b u e => by
            have e' : g.H0 b = some u := e
            rw [upd_ne (fun z => by rw [z, h0] at e'; cases e')]; exact A.thr b u e
          liv := fun b u e => by
            obtain ⟨r1, r2⟩ := A.liv b u e
            refine ⟨?_, r2⟩
            by_cases z : b = D0
            · subst z; exact ⟨_, upd_same⟩
            · rw [upd_ne z]; exact r1
          slo := A.slo
          tm := fun p l2 e => by
            rcases List.mem_cons.mp e with z | z
            · cases z; exact ⟨ys, upd_same, r, hO⟩
            · obtain ⟨zs, e1, e2, e3⟩ := A.tm p l2 (List.mem_cons_of_mem _ z)
              exact ⟨zs, by rw [upd_ne (nd _ z)]; exact e1, e2, e3⟩
          mu := fun b mo e => (A.mu b mo e).mono (Same.refl F) fun q u e1 e2 => ⟨by rw [upd_ne (ne q _ e2 (fun z => by cases z))]; exact e1, e2⟩
          len := A.len
          sl := fun j sv e => by
            obtain ⟨v, e1, q⟩ := A.sl j sv e
            exact ⟨v, e1, q.mono (Same.refl F) fun q xs e1 e2 => ⟨by rw [upd_ne (ne q _ e2 (fun z => by cases z))]; exact e1, e2⟩⟩ }
theorem Ab.made (A : Ab K { g with tmp := (D0, l) :: g.tmp } σ H ρ M F O) (nd : ∀ q ∈ g.tmp, q.1 ≠ D0) : ∃ xs O', Ab K g σ H ρ M F O' ∧ H D0 = some (.lst xs) ∧ RpL K F l xs ∧ F D0 = none ∧ O' D0 = none ∧ g.H0 D0 = none := by
  obtain ⟨xs, h, r, hO⟩ := A.tm D0 l List.mem_cons_self
  have h0 : g.H0 D0 = none := A.slo D0 _ hO (fun _ z => by cases z)
  obtain ⟨_, hF, _⟩ := A.liv D0 _ hO
  refine ⟨xs, fun b => if b = D0 then none else O b, ?_, h, r, hF, if_pos rfl, h0⟩
  have keep : ∀ b u, O b = some u → u ≠ .tmp → (if b = D0 then none else O b) = some u := fun b u e n => by rw [if_neg (fun z => by rw [z, hO] at e; exact n (Option.some.inj e).symm)]; exact e
  exact { sub := A.sub, ext0 := A.ext0, new := A.new, frm := A.frm, thr := A.thr
          liv := fun b u e => by
            by_cases z : b = D0
            · rw [if_pos z] at e; cases e
            · rw [if_neg z] at e; exact A.liv b u e
          slo := fun b u e n => by
            by_cases z : b = D0
            · rw [if_pos z] at e; cases e
            · rw [if_neg z] at e; exact A.slo b u e n
          tm := fun p l' e => by
            obtain ⟨ys, e1, e2, e3⟩ := A.tm p l' (List.mem_cons_of_mem _ e)
            exact ⟨ys, e1, e2, by rw [if_neg (nd _ e)]; exact e3⟩
          mu := fun b mo e => (A.mu b mo e).mono (Same.refl F) fun q u e1 e2 => ⟨e1, keep q _ e2 (fun z => by cases z)⟩
          len := A.len
          sl := fun j sv e => by
            obtain ⟨v, e1, r⟩ := A.sl j sv e
            exact ⟨v, e1, r.mono (Same.refl F) fun q xs e1 e2 => ⟨e1, keep q _ e2 (fun z => by cases z)⟩⟩ }
end
abbrev W0 : WX := fun _ _ _ _ => False
abbrev w0 : PWi := fun _ _ _ _ => False
def dYes : PTT := fun _ _ M q => q true M
abbrev DTs (X : Cx) (W : WX) (ifs : List Expr) (p : PTT) : Prop := PTs X ifs (realT X.K W p)
def compR (gd : PTG) (tt : PTT) (te : PTE) (ρ : Rho) : List D → List D → Mm → (List D → Mm → Prop) → Prop
  | [], acc, M, q => q acc M
  | x :: r, acc, M, q => gd x ρ fun ρ' => tt w0 ρ' M fun b M1 => if b = true then te w0 ρ' M1 fun y M2 => acc.length < 1000000 ∧ compR gd tt te ρ r (acc ++ [y]) M2 q else compR gd tt te ρ r acc M1 q
def dComp (vs : List Nat) (pl : PTA) (gd : PTG) (tt : PTT) (te : PTE) : PTA := fun w ρ M q => okW ρ vs = true ∧ pl w ρ M fun ds M1 => compR gd tt te (uns ρ vs) ds [] M1 q
section
variable {X : Cx} {W : WX} {elt tg iter : Expr} {ifs : List Expr} {scope : Scope} {own : List (Str × Nat)} {pos : Pos} {pl : PTA} {gd : PTG} {tt : PTT} {te : PTE} {is vs : List Nat}
theorem dts_nil : DTs X W [] dYes := by
  refine ⟨fun pins s σ H Q I ⟨g, ρ, M, F, O, q, w, A, h, hw, k⟩ => ?_⟩
  exact pts_nil.run pins s σ H Q I (k true H F O M A (Same.refl F) h)
theorem dts_one {c : Expr} (h : DT X W c tt) : DTs X W [c] tt := pts_one h
theorem compR_at {ρ : Rho} {ds acc : List D} {M : Mm} {q : List D → Mm → Prop} {i : Nat} {d : D} (h : ds[i]? = some d) (k : compR gd tt te ρ (ds.drop i) acc M q) :
    gd d ρ fun ρ' => tt w0 ρ' M fun b M1 => if b = true then te w0 ρ' M1 fun y M2 => acc.length < 1000000 ∧ compR gd tt te ρ (ds.drop (i + 1)) (acc ++ [y]) M2 q else compR gd tt te ρ (ds.drop (i + 1)) acc M1 q := by
  obtain ⟨hi, e⟩ := List.getElem?_eq_some_iff.mp h
  rw [List.drop_eq_getElem_cons hi, e] at k
  exact k
theorem line_lt {n : Nat} (h : n < 1000000) : n < sizeLine := Nat.lt_of_lt_of_le h (by decide)
theorem comp_run {K : PySem.W.Frag} (hsub : ∀ j ∈ is, j ∈ vs) {σ : L2.St} {H : Hp} {Q : VK} (h : realL K W (dComp vs pl gd tt te) σ H Q) : tLc (realI K W pl) (realG K is gd) (realT K W0 tt) (real K W0 te) vs σ H Q := by
  obtain ⟨g, ρ, M, F, O, q, w, A, ⟨hW, pr⟩, hw, k⟩ := h
  refine ⟨g, ρ, M, F, O, _, w, A, pr, hw, fun J H1 F1 O1 M1 ds A1 s1 wk q1 => fun D0 hD => ?_⟩
  have nd : ∀ p ∈ g.tmp, p.1 ≠ D0 := fun p hp z => by
    obtain ⟨xs, e1, _⟩ := A1.tm p.1 p.2 hp
    rw [z, hD] at e1; cases e1
  have A2 := ((A1.laid (o := .lst []) hD).tmpNew (l := []) upd_same rfl (A1.f0 hD) (A1.o0 hD) (A1.g0 hD)).wiped vs
  refine ⟨fun i m H' => ∃ M' F' O' acc, Ab K { g with tmp := (D0, acc) :: g.tmp } (wipe σ vs) H' (uns ρ vs) M' F' O' ∧ Same F1 F' ∧ i ≤ ds.length ∧ m = ds.length - i ∧ compR gd tt te (uns ρ vs) (ds.drop i) acc M' q,
    ⟨ds.length, M1, F1, _, [], A2, Same.refl F1, Nat.zero_le _, rfl, q1⟩, ?_⟩
  rintro i m H2 ⟨M2, F2, O2, acc, A3, s3, hi2, rfl, q2⟩
  by_cases hlt : i < ds.length
  · refine .inr ⟨wk.go _ _ _ _ _ _ _ i A3 s3 hlt, fun H' => ∃ M' F' O' acc, Ab K { g with tmp := (D0, acc) :: g.tmp } (wipe σ vs) H' (uns ρ vs) M' F' O' ∧ Same F1 F' ∧ compR gd tt te (uns ρ vs) (ds.drop (i + 1)) acc M' q, ?_, ?_⟩
    · rintro H' ⟨M', F', O', acc', A', s', q'⟩
      exact ⟨ds.length - (i + 1), by omega, M', F', O', acc', A', s', hlt, rfl, q'⟩
    · intro x H3 y3
      have hd := List.getElem?_eq_getElem hlt
      obtain ⟨F3, A4, s4, r4⟩ := wk.yl _ _ _ _ _ _ _ i x H3 _ A3 s3 y3 hd
      have q3 := compR_at hd q2
      refine ⟨_, uns ρ vs, M2, F3, O2, _, _, A4, r4, q3, fun σ5 ρ5 A5 n5 l5 q5 => ?_⟩
      have ew : wipe σ5 vs = wipe σ vs := wipe_eq (by rw [l5, wipe_length]) fun j hj => (n5 j fun z => hj (hsub j z)).1
      have hl5 : ρ5.length = ρ.length := by rw [A5.len, l5, wipe_length, ← A1.len]
      have back : ∀ {H' : Hp} {M' : Mm} {F' : Hp} {O' : Own} {acc' : List D}, Ab K { g with tmp := (D0, acc') :: g.tmp } σ5 H' ρ5 M' F' O' → Ab K { g with tmp := (D0, acc') :: g.tmp } (wipe σ vs) H' (uns ρ vs) M' F' O' := fun {H' M' F' O' acc'} Z => by
        have Z2 := Z.wiped vs
        rw [ew] at Z2
        refine Z2.congr (by rw [uns_len, uns_len, hl5]) fun j => ?_
        by_cases hj : j ∈ vs
        · rw [gt_uns.2 hj, gt_uns.2 hj]
        · rw [gt_uns.1 hj, gt_uns.1 hj]
          have z := (n5 j fun z => hj (hsub j z)).2
          rw [gt_uns.1 hj] at z
          exact z.symm
      refine ⟨ew, _, ρ5, M2, F3, O2, _, w0, A5, q5, fun _ _ _ _ _ _ _ _ _ _ _ _ z => z, fun b H6 F6 O6 M6 A6 s6 q6 => ?_⟩
      cases b with
      | false =>
        rw [if_neg Bool.false_ne_true] at q6 ⊢
        exact ⟨M6, F6, O6, acc, back A6, (s3.trans s4).trans s6, q6⟩
      | true =>
        rw [if_pos rfl] at q6 ⊢
        refine ⟨_, ρ5, M6, F6, O6, _, w0, A6, q6, fun _ _ _ _ _ _ _ _ _ _ _ _ z => z, fun v H7 F7 O7 M7 d A7 s7 r7 ⟨z7, q7⟩ => ?_⟩
        obtain ⟨xs, h1, h2, _⟩ := A7.tm D0 acc List.mem_cons_self
        exact ⟨xs, h1, by rw [← h2.len]; exact line_lt z7, M7, F7, O7, _, back (A7.grow nd (h2.app (show RpL K F7 [d] [v] from ⟨v, [], rfl, r7, rfl⟩))), ((s3.trans s4).trans s6).trans s7, q7⟩
  · have e : i = ds.length := by omega
    subst e
    rw [List.drop_length] at q2
    refine .inl ⟨wk.sp _ _ _ _ _ _ _ A3 s3, ?_⟩
    have A4 := A3.unwiped A1 s3 hW
    obtain ⟨xs, O4, A5, h1, h2, h3, h4, h5⟩ := A4.made nd
    exact k D0 xs H2 F2 O4 M2 acc A5 (s1.trans s3) h1 h2 h3 h4 h5 q2
theorem dl_comp (hc : X.calm = true) (hN : X.N.Nodup) (hi : DI X W tg iter pl) (ok : BlkOk X.N X.env.scope scope own)
    (hg : ∀ (s : Shared) (H : Hp) (C : Addr) (cl : List (Str × Addr)) (fp : List Addr), DG (X.blk s H scope (compEnvC scope cl C X.env) fp) tg is gd)
    (ht : ∀ (s : Shared) (H : Hp) (C : Addr) (cl : List (Str × Addr)) (fp : List Addr), DTs (X.blk s H scope (compEnvC scope cl C X.env) fp) W0 ifs tt)
    (he : ∀ (s : Shared) (H : Hp) (C : Addr) (cl : List (Str × Addr)) (fp : List Addr), DE (X.blk s H scope (compEnvC scope cl C X.env) fp) W0 elt te) (hsub : ∀ j ∈ is, j ∈ own.map (·.2) := by decide)
    (hs : ∀ x, foldedSetIterable iter X.env x = pure x := by intro _; rfl) : DL X W (.ListComp elt [⟨tg, iter, ifs, 0⟩] scope pos) (dComp (own.map (·.2)) pl gd tt te) :=
  pe_imp (pe_lc hc hN hi ok hg ht he hs) fun σ H Q h => comp_run hsub h
theorem ds_setC (i : Nat) {y : Str} {py spos : Pos} (hc : X.calm = true) (hN : X.N.Nodup) (hsw : swapsWith (.ListComp elt [⟨tg, iter, ifs, 0⟩] scope pos) (some (.Name y py)) spos.line X.env = pure true) (hi : DI X W tg iter pl) (ok : BlkOk X.N X.env.scope scope own)
    (hg : ∀ (s : Shared) (H : Hp) (C : Addr) (cl : List (Str × Addr)) (fp : List Addr), DG (X.blk s H scope (compEnvC scope cl C X.env) fp) tg is gd)
    (ht : ∀ (s : Shared) (H : Hp) (C : Addr) (cl : List (Str × Addr)) (fp : List Addr), DTs (X.blk s H scope (compEnvC scope cl C X.env) fp) W0 ifs tt)
    (he : ∀ (s : Shared) (H : Hp) (C : Addr) (cl : List (Str × Addr)) (fp : List Addr), DE (X.blk s H scope (compEnvC scope cl C X.env) fp) W0 elt te) (hsub : ∀ j ∈ is, j ∈ own.map (·.2) := by decide)
    (hy : X.N[i]? = some y := by rfl) (hyl : X.env.scope.names.lookup y = some .local := by rfl) (hs : ∀ x, foldedSetIterable iter X.env x = pure x := by intro _; rfl) :
    DS X W (.Assign [.Name y py] (.ListComp elt [⟨tg, iter, ifs, 0⟩] scope pos) spos) (dSet i (dL (dComp (own.map (·.2)) pl gd tt te))) :=
  ps_imp (ps_setLc hc hN hy hyl hsw hi ok hg ht he hs) fun D σ H ⟨g, ρ, M, F, O, P, w, A, h, hw, k1, _⟩ => by
    refine comp_run (Q := fun x H1 => gName i x σ H1 D.nx) hsub ⟨g, ρ, M, F, O, _, w, A, h, hw, fun a xs H' F' O' M' ds A' s hH r hF hO h0 q => ?_⟩
    have s2 : Same F' (upd F' a (.lst xs)) := same_new hF
    exact k1 _ H' _ M' _ O' ((A'.freeze hH hF hO h0).put (d := .lst ds) ⟨a, xs, rfl, upd_same, RpL.mono s2 ds xs r⟩) (s.trans s2) q
theorem ds_setCO (i : Nat) {y : Str} {py spos : Pos} (hc : X.calm = true) (hN : X.N.Nodup) (hsw : swapsWith (.ListComp elt [⟨tg, iter, ifs, 0⟩] scope pos) (some (.Name y py)) spos.line X.env = pure true) (hi : DI X W tg iter pl) (ok : BlkOk X.N X.env.scope scope own)
    (hg : ∀ (s : Shared) (H : Hp) (C : Addr) (cl : List (Str × Addr)) (fp : List Addr), DG (X.blk s H scope (compEnvC scope cl C X.env) fp) tg is gd)
    (ht : ∀ (s : Shared) (H : Hp) (C : Addr) (cl : List (Str × Addr)) (fp : List Addr), DTs (X.blk s H scope (compEnvC scope cl C X.env) fp) W0 ifs tt)
    (he : ∀ (s : Shared) (H : Hp) (C : Addr) (cl : List (Str × Addr)) (fp : List Addr), DE (X.blk s H scope (compEnvC scope cl C X.env) fp) W0 elt te) (hsub : ∀ j ∈ is, j ∈ own.map (·.2) := by decide)
    (hy : X.N[i]? = some y := by rfl) (hyl : X.env.scope.names.lookup y = some .local := by rfl) (hs : ∀ x, foldedSetIterable iter X.env x = pure x := by intro _; rfl) :
    DS X W (.Assign [.Name y py] (.ListComp elt [⟨tg, iter, ifs, 0⟩] scope pos) spos) (dSetO i (dComp (own.map (·.2)) pl gd tt te)) :=
  ps_imp (ps_setLc hc hN hy hyl hsw hi ok hg ht he hs) fun D σ H ⟨g, ρ, M, F, O, P, w, A, h, hw, k1, _⟩ => by
    refine comp_run (Q := fun x H1 => gName i x σ H1 D.nx) hsub ⟨g, ρ, M, F, O, _, w, A, h, hw, fun a xs H' F' O' M' ds A' s hH r hF hO h0 q => ?_⟩
    exact k1 _ H' _ M' F' _ (A'.putOwn hH r hF hO h0) s q
end
end Px
set_option Elab.async false
set_option linter.all false
set_option maxRecDepth 100000
namespace Px
open PySem PySem.Spec PyProof.Rows L2
def dRaise (cls : Value) : PTS := fun w _ ρ M => w cls [] ρ M
section
variable {X : Cx} {W : WX}
structure ExcTxt (K : PySem.W.Frag) (mg : Str → Option Value) (x : Str) (C : Addr) : Prop where
  g : mg x = some (.ref C)
  x : PySem.W.excIn K C [.type "ValueError", .type "Exception", .type "BaseException", .type "object"] "ValueError.__new__" = true
  k : PySem.W.keepIn K (.ref C) = true
  b : PySem.W.subIn K (.ref C) (.type "BaseException") = some true
  t : PySem.W.typeIn K (.ref C) = some (.type "type")
end
def ar1 (ds : List D) (f : D → Prop) : Prop := match ds with | [a] => f a | _ => False
def ar2 (ds : List D) (f : D → D → Prop) : Prop := match ds with | [a, b] => f a b | _ => False
def ar3 (ds : List D) (f : D → D → D → Prop) : Prop := match ds with | [a, b, c] => f a b c | _ => False
def ar4 (ds : List D) (f : D → D → D → D → Prop) : Prop := match ds with | [a, b, c, d] => f a b c d | _ => False
theorem ar1_of {ds : List D} {f : D → Prop} (h : ar1 ds f) : ∃ a, ds = [a] ∧ f a := by
  unfold ar1 at h
  split at h
  · exact ⟨_, rfl, h⟩
  · exact h.elim
theorem ar2_of {ds : List D} {f : D → D → Prop} (h : ar2 ds f) : ∃ a b, ds = [a, b] ∧ f a b := by
  unfold ar2 at h
  split at h
  · exact ⟨_, _, rfl, h⟩
  · exact h.elim
theorem ar3_of {ds : List D} {f : D → D → D → Prop} (h : ar3 ds f) : ∃ a b c, ds = [a, b, c] ∧ f a b c := by
  unfold ar3 at h
  split at h
  · exact ⟨_, _, _, rfl, h⟩
  · exact h.elim
def asI (d : D) (f : Int → Prop) : Prop := match d with | .int i => f i | _ => False
theorem asI_of {d : D} {f : Int → Prop} (h : asI d f) : ∃ i, d = .int i ∧ f i := by
  unfold asI at h
  split at h
  · exact ⟨_, rfl, h⟩
  · exact h.elim
def asT (d : D) (f : List D → Prop) : Prop := match d with | .tup l => f l | _ => False
def asL (d : D) (f : List D → Prop) : Prop := match d with | .lst l => f l | _ => False
theorem asL_of {d : D} {f : List D → Prop} (h : asL d f) : ∃ l, d = .lst l ∧ f l := by
  unfold asL at h
  split at h
  · exact ⟨_, rfl, h⟩
  · exact h.elim
def updM (M : Mm) (a : Addr) (mo : Mo) : Mm := fun b => if b = a then some mo else M b
def asDraw (d : D) (M : Mm) (f : Prop) : Prop := match d with | .raw (.ref a) => M a = some .draw ∧ f | _ => False
theorem asDraw_of {d : D} {M : Mm} {f : Prop} (h : asDraw d M f) : ∃ a, d = .raw (.ref a) ∧ M a = some .draw ∧ f := by
  unfold asDraw at h
  split at h
  · exact ⟨_, rfl, h.1, h.2⟩
  · exact h.elim
def sp_begin : PSp := fun ds M q _ => ar1 ds fun d => match d with | .scr ns => ns.length ≤ 63 ∧ ∀ a, M a = none → q (.raw (.ref a)) (updM M a .draw) | _ => False
def sp_take : PSp := fun ds M q _ => ar2 ds fun d n => asDraw d M (asI n fun n => (0 < n ∧ n.natAbs.log2 < 9000) ∧ ∀ k : Int, 0 ≤ k → k < n → q (.int k) M)
section
variable {K : PySem.W.Frag} {g : Gh} {σ : L2.St} {H H' : Hp} {ρ : Rho} {M : Mm} {F F' : Hp} {O : Own} {a l p : Addr} {o : HO}
theorem Ab.poke (A : Ab K g σ H ρ M F O) (h : ∃ x, H p = some x) (hF : F p = none) (hO : O p = none) (h0 : g.H0 p = none) : Ab K g σ (upd H p o) ρ M F O := by
  have ne : ∀ b u, O b = some u → b ≠ p := fun b u e z => by rw [z, hO] at e; cases e
  exact { sub := fun b u e => by rw [upd_ne (fun z => by rw [z, hF] at e; cases e)]; exact A.sub b u e
          ext0 := A.ext0, new := A.new
          frm := fun b u e n => by rw [upd_ne (fun z => by rw [z, h0] at e; cases e)]; exact A.frm b u e n
          thr := fun b u e => by rw [upd_ne (fun z => by rw [z, h0] at e; cases e)]; exact A.thr b u e
          liv := fun b u e => by
            obtain ⟨r1, r2⟩ := A.liv b u e
            exact ⟨by rw [upd_ne (ne b u e)]; exact r1, r2⟩
          slo := A.slo
          tm := fun q l e => by
            obtain ⟨xs, e1, e2, e3⟩ := A.tm q l e
            exact ⟨xs, by rw [upd_ne (ne q _ e3)]; exact e1, e2, e3⟩
          mu := fun b mo e => (A.mu b mo e).mono (Same.refl F) fun q u e1 e2 => ⟨by rw [upd_ne (ne q _ e2)]; exact e1, e2⟩
          len := A.len
          sl := fun j sv e => by
            obtain ⟨v, e1, r⟩ := A.sl j sv e
            exact ⟨v, e1, r.mono (Same.refl F) fun q xs e1 e2 => ⟨by rw [upd_ne (ne q _ e2)]; exact e1, e2⟩⟩ }
theorem Ab.drawn {i : Nat} {big cells : List Int} {c : V} {rest turn mix : Int} (A : Ab K g σ H ρ M F O) (hi : gt ρ i = some (.own (big.map .int))) (hp : σ[i]? = some (some (.ref l))) (h : H p = some (.dK (drawKeys l c rest turn mix)))
    (hc : Rp K F (.lst (cells.map .int)) c) (hF : F p = none) (hO : O p = none) (h0 : g.H0 p = none) (hM : M p = none) (hb : big.length ≤ 63) (hl : cells.length ≤ 63) (m0 : 0 ≤ mix) (m1 : mix < 2147483629) :
    Ab K g σ H (un ρ i) (updM M p .draw) F (fun b => if b = p ∨ b = l then some (.obj p) else O b) := by
  obtain ⟨v, e1, p', xs, e2, e3, e4, e5⟩ := A.sl i _ hi
  rw [hp] at e1
  cases e1
  cases e2
  have ex := e4.ints
  subst ex
  obtain ⟨_, hFl, _⟩ := A.liv l _ e5
  have h0l : g.H0 l = none := A.slo l _ e5 (fun _ z => by cases z)
  have keep : ∀ b u, O b = some u → u ≠ .slot i → (if b = p ∨ b = l then some (Ow.obj p) else O b) = some u := fun b u e n => by
    rw [if_neg]
    · exact e
    · rintro (z | z)
      · rw [z, hO] at e; cases e
      · rw [z, e5] at e; exact n (Option.some.inj e).symm
  exact { sub := A.sub, ext0 := A.ext0, new := A.new, frm := A.frm, thr := A.thr
          liv := fun b u e => by
            by_cases z : b = p ∨ b = l
            · rcases z with z | z
              · subst z; exact ⟨⟨_, h⟩, hF, .inr h0⟩
              · subst z; exact ⟨⟨_, e3⟩, hFl, .inr h0l⟩
            · rw [if_neg z] at e; exact A.liv b u e
          slo := fun b u e n => by
            by_cases z : b = p ∨ b = l
            · rw [if_pos z] at e; exact absurd (Option.some.inj e).symm (n p)
            · rw [if_neg z] at e; exact A.slo b u e n
          tm := fun q l2 e => by
            obtain ⟨ys, e1, e2, e3⟩ := A.tm q l2 e
            exact ⟨ys, e1, e2, keep q _ e3 (fun z => by cases z)⟩
          mu := fun b mo e => by
            by_cases z : b = p
            · subst z
              have e' : mo = .draw := (Option.some.inj ((if_pos rfl).symm.trans (show (if b = b then some Mo.draw else M b) = some mo from e))).symm
              subst e'
              exact ⟨l, big, cells, c, rest, turn, mix, h, e3, hc, if_pos (.inl rfl), if_pos (.inr rfl), hb, hl, m0, m1⟩
            · have e' : M b = some mo := by
                have := e
                unfold updM at this
                rw [if_neg z] at this
                exact this
              exact (A.mu b mo e').mono (Same.refl F) fun q u e1 e2 => ⟨e1, keep q _ e2 (fun z => by cases z)⟩
          len := by rw [un_len]; exact A.len
          sl := fun j sv e => by
            by_cases z : j = i
            · subst z; rw [gt_un_self] at e; cases e
            · rw [gt_un_ne z] at e
              obtain ⟨v, e1, r⟩ := A.sl j sv e
              exact ⟨v, e1, r.mono (Same.refl F) fun q xs e1 e2 => ⟨e1, keep q _ e2 (fun y => z (by cases y; rfl))⟩⟩ }
theorem draw_after {cells big' : List Int} {c : V} {rest' turn' mix' : Int} (A : Wd K g H M F O) (hM : M a = some .draw) (hOa : O a = some (.obj a)) (hOl : O l = some (.obj a)) (hc : Rp K F (.lst (cells.map .int)) c) (hl : cells.length ≤ 63)
    (k : ∀ b o, b ≠ a → b ≠ l → H b = some o → H' b = some o) (h1 : H' a = some (.dK (drawKeys l c rest' turn' mix'))) (h2 : H' l = some (.lst (big'.map V.int))) (hb : big'.length ≤ 63) (m0 : 0 ≤ mix') (m1 : mix' < 2147483629) :
    Aft K H F O H' M F (objs O) := by
  have nf : ∀ b o, F b = some o → b ≠ a ∧ b ≠ l := fun b o e =>
    ⟨fun z => by
      obtain ⟨_, hF, _⟩ := A.liv a _ hOa
      rw [z, hF] at e; exact (nomatch e), fun z => by
      obtain ⟨_, hF, _⟩ := A.liv l _ hOl
      rw [z, hF] at e; cases e⟩
  refine ⟨?_, fun b o e => let ⟨m, e1, _⟩ := objs_of e; ⟨m, e1⟩⟩
  have thr : ∀ b o, H b = some o → ∃ o', H' b = some o' := fun b o e => by
    by_cases z : b = a
    · subst z; exact ⟨_, h1⟩
    · by_cases y : b = l
      · subst y; exact ⟨_, h2⟩
      · exact ⟨o, k b o z y e⟩
  exact { sub := fun b o e => k b o (nf b o e).1 (nf b o e).2 (A.sub b o e), ext0 := Same.refl F, new := fun b o e => .inl e
          frm := fun b o e n => k b o (fun z => n (by rw [z]; exact ⟨a, hOa⟩)) (fun z => n (by rw [z]; exact ⟨a, hOl⟩)) e
          thr := thr
          liv := fun b o e => by
            obtain ⟨m, rfl, e1⟩ := objs_of e
            obtain ⟨⟨x, hx⟩, hF, _⟩ := A.liv b _ e1
            exact ⟨thr b x hx, hF, .inl ⟨m, e1⟩⟩
          slo := fun b o e n => by
            obtain ⟨m, rfl, e1⟩ := objs_of e
            exact absurd rfl (n m)
          tm := fun p l e => absurd e (by simp)
          mu := fun b mo e => by
            by_cases z : b = a
            · subst z
              rw [hM] at e
              cases e
              exact ⟨l, big', cells, c, rest', turn', mix', h1, h2, hc, objs_to hOa, objs_to hOl, hb, hl, m0, m1⟩
            · exact (A.mu b mo e).mono (Same.refl F) fun q u e1 e2 => ⟨k q u (fun y => by rw [y, hOa] at e2; cases e2; exact z rfl) (fun y => by rw [y, hOl] at e2; cases e2; exact z rfl) e1, objs_to e2⟩ }
end
end Px
set_option Elab.async false
set_option linter.all false
set_option maxRecDepth 100000
namespace Px
open PySem PySem.Spec PyProof.Rows L2
section
variable {X : Cx} {W : WX}
def dRetDraw : PTS := fun _ P ρ M => ∃ (big ns : List Int), gt ρ 1 = some (.own (big.map .int)) ∧ gt ρ 0 = some (.val (.scr ns)) ∧ big.length ≤ 63 ∧ ns.length ≤ 63 ∧ ∀ a, M a = none → P.rt (.raw (.ref a)) (updM M a .draw)
theorem ds_retDraw {x0 x1 : Str} {p1 p2 p3 p4 p5 p6 p7 p8 p9 p10 p11 p12 pd pr : Pos} {k1 k2 k3 k4 k5 k6 k7 k8 : Nat} (h0 : X.N[0]? = some x0) (h1 : X.N[1]? = some x1) (v0 : Vis X.env.scope x0) (v1 : Vis X.env.scope x1)
    (d0 : (x0 == ("__debug__" : Str)) = false) (d1 : (x1 == ("__debug__" : Str)) = false) (c0 : (x0 == ("__classdict__" : Str)) = false) (c1 : (x1 == ("__classdict__" : Str)) = false) (hg : Gl X "list") (hm : X.mg "list" = none)
    (he : starEach [.Name x0 p3] X.env = (false, eval (.Name x0 p3) X.env) :: starEach [] X.env := by rfl) (hpl : (backTo p4 (starEach [] X.env)).any (·.1) = false := by rfl) :
    DS X W (.Return (some (.Dict [some (.Constant (.str "large") k1 p1), some (.Constant (.str "cells") k2 p5), some (.Constant (.str "rest") k3 p6), some (.Constant (.str "turn") k4 p7), some (.Constant (.str "mix") k5 p8)]
      [.Name x1 p2, .Call (.Name "list" p9) [.Name x0 p3] [] p4, .Constant (.int 0) k6 p10, .Constant (.int 0) k7 p11, .Constant (.int 7) k8 p12] pd)) pr) dRetDraw := by
  refine ps_imp (ps_ret (pe_disp (pps_cons pe_str (pv 1 h1 v1 d1 c1) (pps_cons pe_str (pe_callTy call_list_of hg hm (by decide +kernel) (pa_cons (pv 0 h0 v0 d0 c0) pa_nil he) (by decide) (by decide) he hpl)
    (pps_cons pe_str pe_int (pps_cons pe_str pe_int (pps_cons pe_str pe_int pps_nil))))) (by rfl) (by rfl) (by simp) (by simp))) fun D σ H ⟨g, ρ, M, F, O, P, w, A, h, hw, k1, k2, _⟩ => ?_
  obtain ⟨big, ns, e1, e0, hb, hn, hq⟩ := h
  obtain ⟨v, hv, l, xs, rfl, hl, rl, hO⟩ := A.sl 1 _ e1
  obtain ⟨u, hu, a, rfl, hs⟩ := A.sl 0 _ e0
  intro p hp
  have A1 := A.laid (o := .dK []) hp
  refine ⟨.ref l, hv, .ref a, hu, a, ns.map V.int, rfl, .inl (same_l A1.sub hs), fun c hc => ?_⟩
  have A2 := A1.lay (o := .lst (ns.map V.int)) hc
  have npc : p ≠ c := fun z => by rw [← z, upd_same] at hc; cases hc
  have h2p : (upd (upd H p (.dK [])) c (.lst (ns.map V.int))) p = some (.dK []) := by rw [upd_ne npc, upd_same]
  have f2p : (upd F c (.lst (ns.map V.int))) p = none := by rw [upd_ne npc]; exact A.f0 hp
  refine ⟨h2p, [(.inr "large", .ref l), (.inr "cells", .ref c), (.inr "rest", .int 0), (.inr "turn", .int 0), (.inr "mix", .int 7)], rfl, by simp, ?_⟩
  have em : mergeK [] [((.inr "large" : Key), V.ref l), (.inr "cells", .ref c), (.inr "rest", .int 0), (.inr "turn", .int 0), (.inr "mix", .int 7)] = drawKeys l (.ref c) 0 0 7 := by
    show _ = [((.inr "large" : Key), V.ref l), (.inr "cells", .ref c), (.inr "rest", .int 0), (.inr "turn", .int 0), (.inr "mix", .int 7)]
    unfold mergeK
    simp only [List.foldl]
    rfl
  rw [em]
  have A3 := A2.poke (o := .dK (drawKeys l (.ref c) 0 0 7)) ⟨_, h2p⟩ f2p (A.o0 hp) (A.g0 hp)
  have hM : M p = none := A.m0 hp
  have A4 := A3.drawn e1 hv upd_same (cells := ns) ⟨c, ns.map V.int, rfl, upd_same, RpL.of_ints ns⟩ f2p (A.o0 hp) (A.g0 hp) hM hb hn (by decide) (by decide)
  exact k2 (.ref p) σ _ _ _ _ _ (.raw (.ref p)) A4 (same_new (A.f0 (by
    by_cases z : c = p
    · exact absurd z.symm npc
    · rw [upd_ne z] at hc; exact hc))) rfl (hq p hM)
end
def rdTake (K : PySem.W.Frag) : TS :=
  tSeq (tIfS (tAnd (tTest (tOp rEq (tDGet (tVar 0) (tC (.str "rest"))) (tC (.int 0)))) (tTest (tOp (rNeD K) (tDGet (tVar 0) (tC (.str "large"))) (tLst tNil))))
      (sDPut (tVar 0) (tC (.str "rest")) (tBM K "list" rPopAt (tDGet (tVar 0) (tC (.str "large"))) (tCons (tC (.int 0)) tNil)))
      (tIfS (tTest (tOp rEq (tDGet (tVar 0) (tC (.str "rest"))) (tC (.int 0))))
        (tSeq (sDPut (tVar 0) (tC (.str "turn")) (tOp (rI0 fun i j => .int (i + j)) (tDGet (tVar 0) (tC (.str "turn"))) (tC (.int 1))))
        (tSeq (tFor (iList K (tOp rCat (tLst (tCons (tDGet (tVar 0) (tC (.str "turn"))) tNil)) (tDGet (tVar 0) (tC (.str "cells"))))) (gName 2)
            (sDPut (tVar 0) (tC (.str "mix")) (tOp (rI (fun _ j => 0 < j) fun i j => .int (i % j)) (tCB (fun xs H Q => (∃ i, xs = [.int i] ∧ Q (.int i) H) ∨ ∃ k, xs = [.bl k] ∧ Q (.int (if k then 1 else 0)) H)
              (tCons (tOp (rI0 fun i j => .int (i + j)) (tOp (rI0 fun i j => .int (i + j)) (tOp (rI CMul fun i j => .int (i * j)) (tDGet (tVar 0) (tC (.str "mix"))) (tC (.int 69621))) (tOp (rI CMul fun i j => .int (i * j)) (tVar 2) (tC (.int 48271)))) (tC (.int 12345))) tNil)) (tC (.int 2147483629)))))
          (sDPut (tVar 0) (tC (.str "rest")) (tOp (rI (fun _ j => 0 < j) fun i j => .int (i % j)) (tCB (fun xs H Q => (∃ i, xs = [.int i] ∧ Q (.int i) H) ∨ ∃ k, xs = [.bl k] ∧ Q (.int (if k then 1 else 0)) H)
              (tCons (tOp (rI CPow fun i j => .int (i ^ j.toNat)) (tDGet (tVar 0) (tC (.str "mix"))) (tC (.int 5))) tNil)) (tC (.int 2305843009213693951))))))
        tNext))
  (tSeq (tAsg (tCB (fun xs H Q => ∃ i j, xs = [.int i, .int j] ∧ CDivP i j ∧ ∀ p, H p = none → Q (.ref p) (upd H p (.tup [.int (i / j), .int (i % j)]))) (tCons (tDGet (tVar 0) (tC (.str "rest"))) (tCons (tVar 1) tNil)))
      (gTup K 2 (gCons (gSub (tVar 0) (tC (.str "rest")) rSetD) (gCons (gName 3) gNil))))
    (tRet (tVar 3)))
section
variable {H : Hp} {a l : Addr} {c : V} {r t m : Int}
theorem get_rest (h : H a = some (.dK (drawKeys l c r t m))) : DGet H a (.str "rest") (some (.int r)) := DGet.k (k := (Sum.inr "rest" : Key)) h
theorem get_turn (h : H a = some (.dK (drawKeys l c r t m))) : DGet H a (.str "turn") (some (.int t)) := DGet.k (k := (Sum.inr "turn" : Key)) h
theorem get_mix (h : H a = some (.dK (drawKeys l c r t m))) : DGet H a (.str "mix") (some (.int m)) := DGet.k (k := (Sum.inr "mix" : Key)) h
theorem get_large (h : H a = some (.dK (drawKeys l c r t m))) : DGet H a (.str "large") (some (.ref l)) := DGet.k (k := (Sum.inr "large" : Key)) h
theorem get_cells (h : H a = some (.dK (drawKeys l c r t m))) : DGet H a (.str "cells") (some c) := DGet.k (k := (Sum.inr "cells" : Key)) h
theorem keys_len : (drawKeys l c r t m).length < sizeLine := by
  show 5 < sizeLine
  decide
theorem put_rest (v : Int) (h : H a = some (.dK (drawKeys l c r t m))) : DPut H a (.str "rest") (.int v) (upd H a (.dK (drawKeys l c v t m))) := DPut.k (k := (Sum.inr "rest" : Key)) (v := .int v) h keys_len
theorem put_turn (v : Int) (h : H a = some (.dK (drawKeys l c r t m))) : DPut H a (.str "turn") (.int v) (upd H a (.dK (drawKeys l c r v m))) := DPut.k (k := (Sum.inr "turn" : Key)) (v := .int v) h keys_len
theorem put_mix (v : Int) (h : H a = some (.dK (drawKeys l c r t m))) : DPut H a (.str "mix") (.int v) (upd H a (.dK (drawKeys l c r t v))) := DPut.k (k := (Sum.inr "mix" : Key)) (v := .int v) h keys_len
end
theorem dp_ints {K : PySem.W.Frag} {H : Hp} : ∀ ns : List Int, DpAll K H (ns.map V.int) (ns.map PyData.int)
  | [] => .nil
  | n :: ns => .cons (.int n) (dp_ints ns)
theorem ints_shaped (ns : List Int) : SeqAt.shaped (.list (ns.map PyData.int)) = true := by
  have h1 : ∀ ns : List Int, PyData.canLayAll0 (ns.map PyData.int) = true ∧ PyData.depthAll (ns.map PyData.int) ≤ 0 := by
    intro ns
    induction ns with
    | nil => exact ⟨rfl, Nat.le_refl _⟩
    | cons n ns ih => exact ⟨by show (true && PyData.canLayAll0 (ns.map PyData.int)) = true; rw [ih.1]; rfl, by show max 0 (PyData.depthAll (ns.map PyData.int)) ≤ 0; omega⟩
  unfold SeqAt.shaped
  rw [Bool.and_eq_true_iff]
  exact ⟨(h1 ns).1, decide_eq_true (by show PyData.depthAll (ns.map PyData.int) + 1 ≤ 64; have := (h1 ns).2; omega)⟩
structure DrawSt (H H' : Hp) (a l : Addr) (c : V) (σ : L2.St) (n r t m : Int) (big : List Int) : Prop where
  s : ∃ y z, σ = [some (.ref a), some (.int n), y, z]
  k : ∀ b o, b ≠ a → b ≠ l → H b = some o → H' b = some o
  d : H' a = some (.dK (drawKeys l c r t m))
  b : H' l = some (.lst (big.map V.int))
section
variable {K : PySem.W.Frag} {H H' : Hp} {a l p : Addr} {c : V} {σ : L2.St} {n r t m r' t' m' : Int} {big big' : List Int} {o : HO}
theorem DrawSt.ne (S : DrawSt H H' a l c σ n r t m big) : a ≠ l := fun z => by
  have h1 := S.d
  rw [z, S.b] at h1
  cases h1
theorem DrawSt.new (S : DrawSt H H' a l c σ n r t m big) (hp : H' p = none) : DrawSt H (upd H' p o) a l c σ n r t m big where
  s := S.s
  k := fun b u h1 h2 e => by
    have z := S.k b u h1 h2 e
    rw [upd_ne (fun y => by rw [y, hp] at z; cases z)]
    exact z
  d := by rw [upd_ne (fun y => by have z := S.d; rw [y, hp] at z; cases z)]; exact S.d
  b := by rw [upd_ne (fun y => by have z := S.b; rw [y, hp] at z; cases z)]; exact S.b
theorem DrawSt.put (S : DrawSt H H' a l c σ n r t m big) : DrawSt H (upd H' a (.dK (drawKeys l c r' t' m'))) a l c σ n r' t' m' big where
  s := S.s
  k := fun b u h1 h2 e => by rw [upd_ne h1]; exact S.k b u h1 h2 e
  d := upd_same
  b := by rw [upd_ne S.ne.symm]; exact S.b
theorem take_tail {D : Ends} (S : DrawSt H H' a l c σ n r t m big) (h0 : 0 < n) (h1 : n.natAbs.log2 < 9000) (hq : ∀ H2, DrawSt H H2 a l c [some (.ref a), some (.int n), none, none] n (r / n) t m big → D.rt (.int (r % n)) H2) :
    tSeq (tAsg (tCB (fun xs H Q => ∃ i j, xs = [.int i, .int j] ∧ CDivP i j ∧ ∀ p, H p = none → Q (.ref p) (upd H p (.tup [.int (i / j), .int (i % j)]))) (tCons (tDGet (tVar 0) (tC (.str "rest"))) (tCons (tVar 1) tNil)))
      (gTup K 2 (gCons (gSub (tVar 0) (tC (.str "rest")) rSetD) (gCons (gName 3) gNil)))) (tRet (tVar 3)) D σ H' := by
  obtain ⟨y, z, rfl⟩ := S.s
  refine ⟨.ref a, rfl, a, .int r, rfl, get_rest S.d, .int n, rfl, r, n, rfl, ⟨h0, PyProof.noPylong_of_log2 h1⟩, fun p hp => ?_⟩
  have S2 := S.new (o := .tup [.int (r / n), .int (r % n)]) hp
  refine ⟨p, _, rfl, .inl (.inl upd_same), rfl, .int (r / n), [.int (r % n)], rfl, .ref a, rfl, a, _, rfl, put_rest (r / n) S2.d, .int (r % n), [], rfl, rfl, .int (r % n), rfl, ?_⟩
  have S3 := S2.put (r' := r / n) (t' := t) (m' := m)
  exact hq _ ⟨⟨none, none, rfl⟩, S3.k, S3.d, S3.b⟩
end
end Px
set_option Elab.async false
set_option linter.all false
set_option maxRecDepth 100000
namespace Px
open PySem PySem.Spec PyProof.Rows L2
theorem itT {c : Bool} {A B : Prop} (hc : c = true) (h : A) : if c = true then A else B := by
  rw [if_pos hc]
  exact h
theorem itF {c : Bool} {A B : Prop} (hc : c = false) (h : B) : if c = true then A else B := by
  rw [hc, if_neg Bool.false_ne_true]
  exact h
theorem seq0 {n : Nat} (h : 0 < n) : seqIndex? (0 : Int) n = some 0 := PySem.StrLaws.seqIndex_nonneg (i := 0) (Int.le_refl 0) (by omega)
section
variable {K : PySem.W.Frag} {H H' : Hp} {a l : Addr} {c : V} {σ : L2.St} {n r t m : Int} {big : List Int}
theorem take_mix {D : Ends} {ca : Addr} {cells : List Int} (S : DrawSt H H' a l (.ref ca) σ n r t m big) (hc : ∀ H2, DrawSt H H2 a l (.ref ca) σ n r (t + 1) m big → H2 ca = some (.lst (cells.map V.int))) (hca : ca ≠ a ∧ ca ≠ l) (hl : cells.length ≤ 63) (m0 : 0 ≤ m) (m1 : m < 2147483629)
    (hq : ∀ H2 σ2 r2 t2 m2, 0 ≤ m2 → m2 < 2147483629 → DrawSt H H2 a l (.ref ca) σ2 n r2 t2 m2 big → D.nx σ2 H2) :
    tSeq (sDPut (tVar 0) (tC (.str "turn")) (tOp (rI0 fun i j => .int (i + j)) (tDGet (tVar 0) (tC (.str "turn"))) (tC (.int 1))))
        (tSeq (tFor (iList K (tOp rCat (tLst (tCons (tDGet (tVar 0) (tC (.str "turn"))) tNil)) (tDGet (tVar 0) (tC (.str "cells"))))) (gName 2)
            (sDPut (tVar 0) (tC (.str "mix")) (tOp (rI (fun _ j => 0 < j) fun i j => .int (i % j)) (tCB (fun xs H Q => (∃ i, xs = [.int i] ∧ Q (.int i) H) ∨ ∃ k, xs = [.bl k] ∧ Q (.int (if k then 1 else 0)) H)
              (tCons (tOp (rI0 fun i j => .int (i + j)) (tOp (rI0 fun i j => .int (i + j)) (tOp (rI CMul fun i j => .int (i * j)) (tDGet (tVar 0) (tC (.str "mix"))) (tC (.int 69621))) (tOp (rI CMul fun i j => .int (i * j)) (tVar 2) (tC (.int 48271)))) (tC (.int 12345))) tNil)) (tC (.int 2147483629)))))
          (sDPut (tVar 0) (tC (.str "rest")) (tOp (rI (fun _ j => 0 < j) fun i j => .int (i % j)) (tCB (fun xs H Q => (∃ i, xs = [.int i] ∧ Q (.int i) H) ∨ ∃ k, xs = [.bl k] ∧ Q (.int (if k then 1 else 0)) H)
              (tCons (tOp (rI CPow fun i j => .int (i ^ j.toNat)) (tDGet (tVar 0) (tC (.str "mix"))) (tC (.int 5))) tNil)) (tC (.int 2305843009213693951))))) D σ H' := by
  obtain ⟨y, z, rfl⟩ := S.s
  refine ⟨.ref a, rfl, a, .int t, rfl, get_turn S.d, t, 1, rfl, rfl, .ref a, rfl, a, _, rfl, put_turn (t + 1) S.d, ?_⟩
  have S1 := S.put (r' := r) (t' := t + 1) (m' := m)
  refine ⟨.ref a, rfl, a, .int (t + 1), rfl, get_turn S1.d, by show 1 ≤ sizeLine; decide, fun p hp => ?_⟩
  have S2 := S1.new (o := .lst [.int (t + 1)]) hp
  have h2c := hc _ S2
  refine ⟨.ref a, rfl, a, .ref ca, rfl, get_cells S2.d, p, ca, _, _, rfl, rfl, upd_same, h2c, by rw [List.length_map]; exact line_big (by show 1 + cells.length ≤ 1000000; omega), fun q hq2 => ?_⟩
  have S3 := S2.new (o := .lst ([V.int (t + 1)] ++ cells.map V.int)) hq2
  refine ⟨q, rfl, ⟨_, .inl (.inl upd_same)⟩, for_list (xs := [V.int (t + 1)] ++ cells.map V.int) (fun i σ' H2 => ∃ m', 0 ≤ m' ∧ m' < 2147483629 ∧ DrawSt H H2 a l (.ref ca) σ' n r (t + 1) m' big ∧ H2 q = some (.lst ([V.int (t + 1)] ++ cells.map V.int)))
    ⟨m, m0, m1, S3, upd_same⟩ (fun i σ' H2 _ ⟨m', _, _, _, h⟩ => .inl (.inl h)) (fun i x σ' H2 hx ⟨m', h0, h1, S4, hq4⟩ => ?_) (fun σ' H2 ⟨m', h0, h1, S4, hq4⟩ => ?_)⟩
  · obtain ⟨k, rfl⟩ : ∃ k, x = V.int k := by
      rcases List.mem_append.mp (List.mem_of_getElem? hx) with z | z
      · exact ⟨_, List.mem_singleton.mp z⟩
      · obtain ⟨k, _, e⟩ := List.mem_map.mp z
        exact ⟨k, e.symm⟩
    obtain ⟨y', z', rfl⟩ := S4.s
    refine ⟨.ref a, rfl, a, .int m', rfl, get_mix S4.d, m', 69621, rfl, rfl, .inr ⟨by decide, by decide⟩, .int k, rfl, k, 48271, rfl, rfl, .inr ⟨by decide, by decide⟩, m' * 69621, k * 48271, rfl, rfl, m' * 69621 + k * 48271, 12345, rfl, rfl,
      .inl ⟨m' * 69621 + k * 48271 + 12345, rfl, m' * 69621 + k * 48271 + 12345, 2147483629, rfl, rfl, (show (0 : Int) < 2147483629 by decide), .ref a, rfl, a, _, rfl, put_mix ((m' * 69621 + k * 48271 + 12345) % 2147483629) S4.d, ?_⟩⟩
    refine ⟨(m' * 69621 + k * 48271 + 12345) % 2147483629, Int.emod_nonneg _ (by decide), Int.emod_lt_of_pos _ (by decide), ?_, ?_⟩
    · have S5 := S4.put (r' := r) (t' := t + 1) (m' := (m' * 69621 + k * 48271 + 12345) % 2147483629)
      exact ⟨⟨some (.int k), z', rfl⟩, S5.k, S5.d, S5.b⟩
    · rw [upd_ne (fun z => by have := S4.d; rw [← z, hq4] at this; cases this)]
      exact hq4
  · obtain ⟨y', z', rfl⟩ := S4.s
    refine ⟨.ref a, rfl, a, .int m', rfl, get_mix S4.d, m', 5, rfl, rfl, ⟨by decide, by decide, ?_⟩, .inl ⟨m' ^ (5 : Int).toNat, rfl, m' ^ (5 : Int).toNat, 2305843009213693951, rfl, rfl, (show (0 : Int) < 2305843009213693951 by decide), .ref a, rfl, a, _, rfl, put_rest ((m' ^ (5 : Int).toNat) % 2305843009213693951) S4.d, ?_⟩⟩
    · have e : (2 : Nat) ^ 64 = 18446744073709551616 := by decide
      rw [e]; omega
    · exact hq _ _ _ _ m' h0 h1 S4.put
end
theorem draw_is {K : PySem.W.Frag} {F H : Hp} {O : Own} {a : Addr} (h : MoOk K F H O a .draw) : ∃ (l : Addr) (big cells : List Int) (c : V) (rest turn mix : Int), H a = some (.dK (drawKeys l c rest turn mix)) ∧ H l = some (.lst (big.map V.int)) ∧ Rp K F (.lst (cells.map .int)) c ∧
      O a = some (.obj a) ∧ O l = some (.obj a) ∧ big.length ≤ 63 ∧ cells.length ≤ 63 ∧ 0 ≤ mix ∧ mix < 2147483629 := h
theorem take_run {K : PySem.W.Frag} {vs : List V} {H : Hp} {Q : VK} {E : XK} {N : List Str} (hN : N.length = 4) (h : toSp K 2 sp_take vs H Q E) : rdTake K { nx := fun _ H' => Q .non H', rt := Q } (L2.start N vs) H := by
  obtain ⟨g, F, M, O, ds, q, e, _, A, rp, hsp, hQ, _⟩ := h
  obtain ⟨d, n', rfl, h⟩ := ar2_of hsp
  obtain ⟨a, rfl, hM, h⟩ := asDraw_of h
  obtain ⟨n, rfl, ⟨hn0, hn1⟩, hk⟩ := asI_of h
  obtain ⟨v1, r1, rfl, hv1, v2, r2, rfl, hv2, hr2⟩ := rp
  have hr2 : r2 = [] := hr2
  have hv1 : v1 = .ref a := hv1
  have hv2 : v2 = .int n := hv2
  subst hr2 hv1 hv2
  obtain ⟨l, big, cells, c, rest, turn, mix, h1, h2, hc, o1, o2, hb, hl, m0, m1⟩ := draw_is (A.mu a _ hM)
  obtain ⟨ca, cxs, rfl, hF, rc⟩ := id hc
  have ex := rc.ints
  subst ex
  have nf : ∀ b o, F b = some o → b ≠ a ∧ b ≠ l := fun b o e => by
    constructor
    · intro z
      obtain ⟨_, hF, _⟩ := A.liv a _ o1
      rw [z, hF] at e
      cases e
    · intro z
      obtain ⟨_, hF, _⟩ := A.liv l _ o2
      rw [z, hF] at e
      cases e
  have es : L2.start N [V.ref a, V.int n] = [some (.ref a), some (.int n), none, none] := by
    unfold L2.start
    rw [hN]; rfl
  rw [es]
  have S : DrawSt H H a l (.ref ca) [some (.ref a), some (.int n), none, none] n rest turn mix big := ⟨⟨none, none, rfl⟩, fun _ _ _ _ e => e, h1, h2⟩
  have fin : ∀ {H2 : Hp} {σ2 : L2.St} {big2 : List Int} {r2 t2 m2 : Int}, big2.length ≤ 63 → 0 ≤ m2 → m2 < 2147483629 → DrawSt H H2 a l (.ref ca) σ2 n r2 t2 m2 big2 →
      tSeq (tAsg (tCB (fun xs H Q => ∃ i j, xs = [.int i, .int j] ∧ CDivP i j ∧ ∀ p, H p = none → Q (.ref p) (upd H p (.tup [.int (i / j), .int (i % j)]))) (tCons (tDGet (tVar 0) (tC (.str "rest"))) (tCons (tVar 1) tNil)))
        (gTup K 2 (gCons (gSub (tVar 0) (tC (.str "rest")) rSetD) (gCons (gName 3) gNil)))) (tRet (tVar 3)) { nx := fun _ H' => Q .non H', rt := Q } σ2 H2 := fun {H2 σ2 big2 r2 t2 m2} hb2 q0 q1 S2 =>
    take_tail S2 hn0 hn1 fun H3 S3 => hQ (.int (r2 % n)) H3 F (objs O) M (.int (r2 % n)) (draw_after A hM o1 o2 hc hl S3.k S3.d S3.b hb2 q0 q1) rfl (hk (r2 % n) (Int.emod_nonneg _ (by omega)) (Int.emod_lt_of_pos _ hn0))
  have mixed : ∀ {H2 : Hp} {σ2 : L2.St}, DrawSt H H2 a l (.ref ca) σ2 n rest turn mix big → _ := fun {H2 σ2} S2 =>
    take_mix (K := K) (D := { nx := tSeq (tAsg (tCB (fun xs H Q => ∃ i j, xs = [.int i, .int j] ∧ CDivP i j ∧ ∀ p, H p = none → Q (.ref p) (upd H p (.tup [.int (i / j), .int (i % j)]))) (tCons (tDGet (tVar 0) (tC (.str "rest"))) (tCons (tVar 1) tNil)))
        (gTup K 2 (gCons (gSub (tVar 0) (tC (.str "rest")) rSetD) (gCons (gName 3) gNil)))) (tRet (tVar 3)) { nx := fun _ H' => Q .non H', rt := Q }, rt := Q }) S2
      (fun H3 S3 => S3.k _ _ (nf _ _ hF).1 (nf _ _ hF).2 (A.sub _ _ hF)) (nf _ _ hF) hl m0 m1 fun H3 σ3 r3 t3 m3 q0 q1 S3 => fin hb q0 q1 S3
  refine ⟨.ref a, rfl, a, .int rest, rfl, get_rest h1, rfl, _, rfl, ?_⟩
  by_cases hr : rest = 0
  · refine itT (decide_eq_true (by rw [hr])) ?_
    refine ⟨.ref a, rfl, a, .ref l, rfl, get_large h1, Nat.zero_le _, fun p hp => ?_⟩
    have S2 := S.new (o := .lst []) hp
    refine ⟨.list (big.map PyData.int), .list [], .lst (.inl (.inl S2.b)) (dp_ints big), .lst (.inl (.inl upd_same)) .nil, ints_shaped big, ints_shaped [], _, rfl, ?_⟩
    cases big with
    | nil =>
      refine iteF ?_
      exact ⟨.ref a, rfl, a, .int rest, rfl, get_rest S2.d, rfl, _, rfl, itT (decide_eq_true (by rw [hr])) (mixed S2)⟩
    | cons b0 br =>
      refine iteT ?_
      refine ⟨.ref a, rfl, a, .ref l, rfl, get_large S2.d, .inl ⟨rfl, _, .inl (.inl S2.b)⟩, l, _, 0, 0, .int b0, rfl, rfl, S2.b, by decide, by decide, seq0 (by simp), rfl, .ref a, rfl, a,
        upd (upd (upd H p (.lst [])) l (.lst (br.map V.int))) a (.dK (drawKeys l (.ref ca) b0 turn mix)), rfl, ?_, ?_⟩
      · exact put_rest b0 (by
          show (upd (upd H p (.lst [])) l (.lst (br.map V.int))) a = _
          rw [upd_ne S2.ne]; exact S2.d)
      · refine fin (big2 := br) (by have := hb; rw [List.length_cons] at this; omega) m0 m1 (r2 := b0) (t2 := turn) (m2 := mix) ⟨⟨none, none, rfl⟩, fun b o z1 z2 e => ?_, upd_same, ?_⟩
        · rw [upd_ne z1, upd_ne z2]; exact S2.k b o z1 z2 e
        · rw [upd_ne S2.ne.symm, upd_same]
  · refine itF (decide_eq_false fun z => hr (V.int.inj z)) ?_
    refine iteF ?_
    refine ⟨.ref a, rfl, a, .int rest, rfl, get_rest h1, rfl, _, rfl, ?_⟩
    exact itF (decide_eq_false fun z => hr (V.int.inj z)) (fin hb m0 m1 S)
end Px
set_option Elab.async false
set_option linter.all false
set_option maxRecDepth 100000
namespace Px
open PySem PySem.Spec PyProof.Rows L2
def sp_law : PSp := fun ds M q _ => ar1 ds fun d => match d with | .scr ns => ns.length ≤ 63 ∧ q (.bl true) M | _ => False
def trackS (a : Addr) (o : Obj) (xs : List V) : Hp := fun b => if b = a then some (.frz o (.lst xs)) else none
theorem trackS_at {a : Addr} {o : Obj} {xs : List V} : trackS a o xs a = some (.frz o (.lst xs)) := if_pos rfl
theorem trackS_ne {a b : Addr} {o : Obj} {xs : List V} (h : b ≠ a) : trackS a o xs b = none := if_neg h
section
variable {P : Program} {w : World} {K : PySem.W.Frag} {mg mb : Str → Option Value} {k : Nat} {fa a : Addr} {fd : FuncData} {x : Str} {s₁ : Shared} {vs : List Value} {ns : List Int}
abbrev GoodEnd (s₁ : Shared) : Result → Shared → Prop := fun r s' => r = .ok (.ret (.bool true)) ∧ OldK s₁.heap s'.heap ∧ s'.os = s₁.os ∧ AllBare s'.gens
theorem law_from (H : Hp) (KX : K.In s₁.heap) (hns : s₁.heap.Ns mainGlobals mg) (hb : s₁.heap.Ns builtinsNs mb) (hbb : ∀ x : Str, x ≠ "__name__" → mb x = bootBuiltins x) (hlim : s₁.heap.NoLimit) (hg : s₁.gens = #[])
    (ha : s₁.heap.get? a = some { cls := .type "list", data := .seq vs.toArray }) (hl : ns.length ≤ 63) (hr : Room k callerA) (G : ∀ base : Heap, K.In base → base.Ns mainGlobals mg → FnG P w K mg base k fa fd [x] (toSp K 1 sp_law))
    (hbind : ∀ (s : Shared) (u : Value), BindsTo s fd ⟨[u], []⟩ [(x, u)]) (hO : ∀ b, H b = none ∨ ∃ o xs, H b = some (.frz o (.lst xs))) (hS : SqL K H a (ns.map V.int)) (hok : HOk P w H s₁.heap) (hA : ∀ b, H b ≠ none → b = a) (hK : H a ≠ none → K.lookup a = none) :
    codeAny (model P w) callerA (.call (.ref fa) ⟨[.ref a], []⟩) (GoodEnd s₁) s₁ := by
  have free_dict : ∀ {b : Addr} {u : Obj} {es : Array DictEntry} {ep : Nat}, s₁.heap.get? b = some u → u.data = .dict es ep → H b = none := by
    intro b u es ep e d
    by_cases z : H b = none
    · exact z
    · have y := hA b z
      rw [y, ha] at e
      cases e
      exact absurd (show Data.seq vs.toArray _ = Data.dict es ep from d) (fun z => by cases z)
  have ns_of : ∀ {b : Addr} {m : Str → Option Value}, s₁.heap.Ns b m → (hidT s₁.heap H).Ns b m := by
    rintro b m ⟨u, es, ep, e, d, r⟩
    exact ⟨u, es, ep, hidT_get e (free_dict e d), d, r⟩
  have kb : K.In (hidT s₁.heap H) := by
    intro b u e
    refine hidT_get (KX b u e) ?_
    by_cases z : H b = none
    · exact z
    · have y := hA b z
      rw [y] at e z
      rw [hK z] at e
      cases e
  have lim2 : (hidT s₁.heap H).NoLimit := by
    obtain ⟨mc, q1, q2⟩ := hlim
    exact ⟨mc, ns_of q1, q2⟩
  have md : Mod K mg (hidT s₁.heap H) := ⟨kb, ns_of hns, ⟨mb, ns_of hb, hbb⟩, lim2⟩
  have nofr : ∀ b ∈ frs ([] : List Env), H b = none := fun b hm => nomatch hm
  have e0 : Env0 P w K mg (hidT s₁.heap H) callerA [] s₁ H := { frames := rfl, mod := md, bs := fun b u e => of_hidT e, bsz := Nat.le_of_eq (hidT_size _ _), funs := trivial, frf := nofr, hok := hok, bare := .of_eq hg }
  have prom : toSp K 1 sp_law [.ref a] H (fun v _ => v = .bl true) (fun _ _ _ => False) := by
    refine ⟨⟨H, H, fun _ => False, []⟩, H, fun _ => none, fun _ => none, [.scr ns], fun d _ => d = .bl true, fun _ _ _ => False, rfl, ?_, ⟨.ref a, [], rfl, ⟨a, rfl, hS⟩, rfl⟩, ⟨hl, rfl⟩, fun v H' F' O' M' d _ r e => ?_, fun _ _ _ _ _ _ _ _ _ z => z⟩
    · exact { sub := fun _ _ e => e, ext0 := fun _ _ e => e, new := fun _ _ e => .inl e, frm := fun _ _ e _ => e, thr := fun _ u e => ⟨u, e⟩, liv := fun _ _ e => (nomatch e), slo := fun _ _ e => (nomatch e), tm := fun _ _ e => (nomatch e), mu := fun _ _ e => (nomatch e) }
    · have e' : d = .bl true := e
      subst e'
      exact r
  refine codeAny_mono ((G _ kb (ns_of hns)).run callerA [] s₁ H ⟨[.ref a], []⟩ [.ref a] [.ref a] _ _ hr rfl e0 (hbind s₁ (.ref a)) (.cons rfl .nil) prom) ?_
  intro r s' h
  cases r with
  | error e =>
    obtain ⟨_, _, _, _, _, _, _, _, _, _, _, _, z⟩ := h
    exact z.elim
  | ok fl =>
    cases fl with
    | ret u =>
      obtain ⟨v, H', h1, h2, un, hok', rv, q⟩ := h
      have q' : v = .bl true := q
      subst q'
      have eu : u = Value.bool true := rv
      subst eu
      refine ⟨rfl, OldK.of_keep fun b u e => ?_, h1, h2⟩
      rcases hO b with z | ⟨ob, xs, z⟩
      · exact un.keep b u e z (fun y => nomatch y) (fun y => nomatch y)
      · obtain ⟨e1, _⟩ := hok b _ z
        obtain ⟨e2, _⟩ := hok' b _ (un.frzs b ob _ z)
        rw [e] at e1
        cases e1
        exact e2
    | next => exact h.elim
    | brk => exact h.elim
    | cont => exact h.elim
theorem law_end (KX : K.In s₁.heap) (hns : s₁.heap.Ns mainGlobals mg) (hb : s₁.heap.Ns builtinsNs mb) (hbb : ∀ x : Str, x ≠ "__name__" → mb x = bootBuiltins x) (hlim : s₁.heap.NoLimit) (hg : s₁.gens = #[])
    (ha : s₁.heap.get? a = some { cls := .type "list", data := .seq vs.toArray }) (hi : IntsAre vs ns) (hl : ns.length ≤ 63) (hr : Room k callerA) (G : ∀ base : Heap, K.In base → base.Ns mainGlobals mg → FnG P w K mg base k fa fd [x] (toSp K 1 sp_law))
    (hbind : ∀ (s : Shared) (u : Value), BindsTo s fd ⟨[u], []⟩ [(x, u)]) : codeAny (model P w) callerA (.call (.ref fa) ⟨[.ref a], []⟩) (GoodEnd s₁) s₁ := by
  have rv := vals_ints hi
  have hz : ns.length ≤ sizeLine := Nat.le_trans hl (by decide)
  cases hk : K.lookup a with
  | some o =>
    have e := KX a o hk
    rw [ha] at e
    cases e
    exact law_from (fun _ => none) KX hns hb hbb hlim hg ha hl hr G hbind (fun _ => .inl rfl) (.inr ⟨_, vs.toArray, _, hk, rfl, rfl, rfl, by rw [List.size_toArray, ← hi.length] at *; simpa using hz, by simpa using rv⟩) (fun _ _ z => nomatch z) (fun _ z => absurd rfl z) (fun z => absurd rfl z)
  | none =>
    refine law_from (trackS a { cls := .type "list", data := .seq vs.toArray } (ns.map V.int)) KX hns hb hbb hlim hg ha hl hr G hbind (fun b => ?_) (.inl (.inr ⟨_, trackS_at⟩)) (fun b u z => ?_) (fun b z => ?_) (fun _ => hk)
    · by_cases y : b = a
      · exact .inr ⟨_, _, by rw [y]; exact trackS_at⟩
      · exact .inl (trackS_ne y)
    · by_cases y : b = a
      · subst y
        rw [trackS_at] at z
        cases z
        exact ⟨ha, by rw [List.length_map]; exact hz, vs, _, rv, ha⟩
      · rw [trackS_ne y] at z
        cases z
    · by_cases y : b = a
      · exact y
      · exact absurd (trackS_ne y) z
end
theorem walk_g {l : PySem.W.OpenLaw} {k : Nat} {q : Program} {loose : List Str} {XP : (Str → Option Value) → Heap → Prop} {YP : World → Heap → Prop} {d : DefRec} {K : Params → PySem.W.Frag} {x : Str} (hn : l.most = some 63) (hdf : d.params.defaults = []) (hr : Room k callerA)
    (hY : ∀ (w : World) (h : Heap), YP w h → (K w.params).In h)
    (G : ∀ (w : World) (mg : Str → Option Value) (fa : Addr) (h : Heap), (K w.params).In h → h.Ns mainGlobals mg → mg d.name = some (.ref fa) →
      ∃ fd : FuncData, (∀ (s : Shared) (u : Value), BindsTo s fd ⟨[u], []⟩ [(x, u)]) ∧ ∀ base : Heap, (K w.params).In base → base.Ns mainGlobals mg → FnG l.prog w (K w.params) mg base k fa fd [x] (toSp (K w.params) 1 sp_law)) :
    PySem.W.WalkO q loose XP YP l.row.toRowW d [] (fun f vs => PySem.call f vs) := by
  refine Att.attach_call hn hdf fun w s₀ s₁ mg mb fa o pm cd doc a vs ns G0 Y ho hd hcd hmg hobj hints hlen hg => ?_
  obtain ⟨fd, hbd, hF⟩ := G w mg fa _ (hY w _ Y) G0.T.g hmg
  exact law_end (hY w _ Y) G0.T.g G0.T.b G0.T.builtins G0.T.nolimit hg hobj hints hlen hr hF hbd
end Px
set_option Elab.async false
set_option linter.all false
set_option maxRecDepth 100000
namespace Px
open PySem PySem.Spec PyProof.Rows L2
theorem ar1_len {ds : List D} {f : D → Prop} (h : ar1 ds f) : ds.length = 1 := by obtain ⟨_, rfl, _⟩ := ar1_of h; rfl
theorem ar2_len {ds : List D} {f : D → D → Prop} (h : ar2 ds f) : ds.length = 2 := by obtain ⟨_, _, rfl, _⟩ := ar2_of h; rfl
theorem ar3_len {ds : List D} {f : D → D → D → Prop} (h : ar3 ds f) : ds.length = 3 := by obtain ⟨_, _, _, rfl, _⟩ := ar3_of h; rfl
structure DefT (K : PySem.W.Frag) (mg : Str → Option Value) (x : Str) (stm : Stmt) (ps : List Str) (a : Addr) (fd : FuncData) : Prop where
  f : L2.Fun K x x stm a fd
  b : Binds K fd ps []
  g : mg x = some (.ref a)
theorem dg0 {X : Cx} {k : Nat} {x : Str} {p p2 p3 : Pos} {j : Nat} (hr : Room k X.A) (s : Str) (hN : X.N[0]? = some x := by rfl) (hv : Vis X.env.scope x := by first | exact Or.inl rfl | exact Or.inr (Or.inl rfl) | exact Or.inr (Or.inr rfl)) (hd : (x == ("__debug__" : Str)) = false := by decide)
    (hcd : (x == ("__classdict__" : Str)) = false := by decide) : PE X (.Subscript (.Name x p) (.Constant (.str s) j p2) p3) (tDGet (tVar 0) (tC (.str s))) := pe_dget (hu_of hr) (pv 0 hN hv hd hcd) pe_str (by intro _ _; rfl)
theorem de_gintE {X : Cx} {W : WX} {pos : Pos} {x : Str} {i : Int} (hg : Gl X x) (hm : ∃ t, X.mg x = some (.int i t)) (hd : (x == ("__debug__" : Str)) = false := by decide) : DE X W (.Name x pos) (dC (.int i)) := hm.elim fun _ h => de_gint hg h hd
theorem de_gstrE {X : Cx} {W : WX} {pos : Pos} {x y : Str} (hg : Gl X x) (hm : ∃ t, X.mg x = some (.str y t)) (hd : (x == ("__debug__" : Str)) = false := by decide) : DE X W (.Name x pos) (dC (.str y)) := hm.elim fun _ h => de_gstr hg h hd
theorem updM_same {M : Mm} {a : Addr} {mo : Mo} : updM M a mo a = some mo := if_pos rfl
theorem updM_le {M : Mm} {a : Addr} {mo : Mo} (h : M a = none) : MLe M (updM M a mo) := fun b m e => by
  show (if b = a then some mo else M b) = some m
  rw [if_neg (fun z => by rw [z, h] at e; exact nomatch e)]
  exact e
def rd_begin : PTS := (dSeq (dSetO 1 (dComp [2] (iL (dVar 0)) (gNm 2) (dTst (dOp fGe (dB1 fAbs (dVar 2)) (dOp fPow (dC (.int 10)) (dC (.int 18))))) (dB1 fAbs (dVar 2)))) dRetDraw)
theorem comp_begin {w : List Nat} {ρ : Rho} {M : Mm} {q : List D → Mm → Prop} (hρ : ∃ x y z, ρ = [x, y, z]) : ∀ (ns : List Int) (acc : List Int), acc.length + ns.length ≤ 63 → (∀ l : List Int, l.length ≤ 63 → q (l.map .int) M) →
    compR (gNm 2) (dTst (dOp fGe (dB1 fAbs (dVar 2)) (dOp fPow (dC (.int 10)) (dC (.int 18))))) (dB1 fAbs (dVar 2)) ρ (ns.map .int) (acc.map .int) M q
  | [], acc, h, k => k acc (by simpa using h)
  | n :: ns, acc, h, k => by
    obtain ⟨x, y, z, rfl⟩ := hρ
    have hl : acc.length + ns.length + 1 ≤ 63 := by
      have e : acc.length + (ns.length + 1) ≤ 63 := h
      omega
    refine ⟨⟨by decide, by decide, by decide⟩, ?_⟩
    show if decide ((10 : Int) ^ (18 : Int).toNat ≤ if n < 0 then -n else n) = true then _ else _
    by_cases c : (10 : Int) ^ (18 : Int).toNat ≤ if n < 0 then -n else n
    · refine itT (decide_eq_true c) ⟨?_, ?_⟩
      · rw [List.length_map]; omega
      · have e := comp_begin (w := w) (ρ := [x, y, z]) (M := M) (q := q) ⟨x, y, z, rfl⟩ ns (acc ++ [if n < 0 then -n else n]) (by rw [List.length_append, List.length_singleton]; omega) k
        rw [List.map_append] at e
        exact e
    · exact itF (decide_eq_false c) (comp_begin (w := w) ⟨x, y, z, rfl⟩ ns acc (by omega) k)
theorem sh_begin : Shows sp_begin 3 rd_begin := by
  intro ds M q e h
  obtain ⟨d, rfl, h⟩ := ar1_of h
  obtain ⟨ns, rfl, hn, hq⟩ : ∃ ns, d = .scr ns ∧ ns.length ≤ 63 ∧ ∀ a, M a = none → q (.raw (.ref a)) (updM M a .draw) := by
    cases d with
    | scr ns => exact ⟨ns, rfl, h⟩
    | _ => exact (show False from h).elim
  refine ⟨rfl, comp_begin (w := []) ⟨_, _, _, rfl⟩ ns [] (by simpa using hn) fun l hl => ?_⟩
  exact ⟨l, ns, rfl, rfl, hl, hn, fun a ha => ⟨_, MLe.refl _, hq a ha⟩⟩
def sp_pick : PSp := fun ds M q _ => ar2 ds fun d l => asL l fun l => asDraw d M ((0 < l.length ∧ l.length ≤ 100000) ∧ ∀ x ∈ l, q x M)
def rd_pick : PTS := (dRet (dOp fIx (dVar 1) (dCall sp_take [] (dCons (dVar 0) (dCons (dB1 fLen (dVar 1)) dNil)))))
theorem log_small {n : Int} (h0 : 0 ≤ n) (h : n ≤ 2 ^ 4000) : n.natAbs.log2 < 9000 := by
  have e : n.natAbs ≤ 2 ^ 4000 := by omega
  exact PySem.Flt.log2_lt_of (by decide) (Nat.lt_of_le_of_lt e (Nat.pow_lt_pow_right (by decide) (by decide)))
theorem sh_pick : Shows sp_pick 2 rd_pick := by
  intro ds M q e h
  obtain ⟨d, x, rfl, h⟩ := ar2_of h
  obtain ⟨l, rfl, h⟩ := asL_of h
  obtain ⟨a, rfl, hM, ⟨h0, h1⟩, hq⟩ := asDraw_of h
  refine ⟨hM, ⟨by omega, log_small (by omega) ?_⟩, fun k k0 k1 => ?_⟩
  · have : (100000 : Int) ≤ 2 ^ 4000 := by decide
    omega
  · obtain ⟨j, rfl⟩ : ∃ j : Nat, k = j := ⟨k.toNat, by omega⟩
    have hj : j < l.length := by omega
    exact ⟨l[j], atI_nat (List.getElem?_eq_getElem hj), M, MLe.refl M, hq _ (List.getElem_mem hj)⟩
end Px
set_option Elab.async false
set_option linter.all false
set_option maxRecDepth 100000
namespace Px
open PySem PySem.Spec PyProof.Rows L2
def dNever : PTE := fun _ _ _ _ => False
def dNeverS : PTS := fun _ _ _ _ => False
section
variable {X : Cx} {W : WX} {e : Expr} {st1 : Stmt}
end
def fEqS : F2
  | .str a, .str b, k => k (.bl (decide (a = b)))
  | _, _, _ => False
def fNeS : F2
  | .str a, .str b, k => k (.bl (!decide (a = b)))
  | _, _, _ => False
section
variable {X : Cx} {W : WX} {K : PySem.W.Frag} {a b : Expr} {pa pb : PTE} {pos : Pos}
end
def showOk (d : PyData) : Prop := d.showable = true ∧ d.shown.length ≤ 16777216
section
variable {X : Cx} {W : WX} {K : PySem.W.Frag} {a : Expr} {pa : PTE} {p pos : Pos}
def fRepr : F1 := fun x k => okD 50 x = true ∧ showOk (toPy x) ∧ k (.str (toPy x).shown)
end
def appR (ρ : Rho) (i : Nat) (d : D) (k : Rho → Prop) : Prop := match gt ρ i with | some (.own l) => l.length < 1000000 ∧ k (st ρ i (.own (l ++ [d]))) | _ => False
theorem appR_of {ρ : Rho} {i : Nat} {d : D} {k : Rho → Prop} (h : appR ρ i d k) : ∃ l, gt ρ i = some (.own l) ∧ l.length < 1000000 ∧ k (st ρ i (.own (l ++ [d]))) := by
  unfold appR at h
  split at h
  · exact ⟨_, by assumption, h⟩
  · exact h.elim
def isOwn (ρ : Rho) (i : Nat) : Prop := match gt ρ i with | some (.own _) => True | _ => False
theorem isOwn_of {ρ : Rho} {i : Nat} (h : isOwn ρ i) : ∃ l, gt ρ i = some (.own l) := by
  unfold isOwn at h
  split at h
  · exact ⟨_, by assumption⟩
  · exact h.elim
def dApp (i : Nat) (pe : PTE) : PTS := fun w P ρ M => isOwn ρ i ∧ pe w ρ M fun d M' => appR ρ i d fun ρ' => P.nx ρ' M'
section
variable {X : Cx} {W : WX} {e : Expr} {pe : PTE} {pos p1 p2 p3 : Pos}
theorem ds_app (i : Nat) {x : Str} (he : DE X W e pe) (hN : X.N[i]? = some x := by rfl) (hv : Vis X.env.scope x := by first | exact Or.inl rfl | exact Or.inr (Or.inl rfl) | exact Or.inr (Or.inr rfl)) (hd : (x == ("__debug__" : Str)) = false := by decide)
    (hcd : (x == ("__classdict__" : Str)) = false := by decide) (hs : starEach [e] X.env = (false, eval e X.env) :: starEach [] X.env := by rfl)
    (hbase : attributeBase (.Name x p1) "append" X.env (eval (.Name x p1) X.env) = eval (.Name x p1) X.env := by rfl)
    (hfew : ((backTo p3 (starEach [e] X.env)).all (fun x => !x.1) && (backToKw p3 (keywordEach [] X.env)).all (fun x => x.1.isSome)
      && decide ([e].length + ([] : List Keyword).length + (if ([] : List Keyword).isEmpty then 0 else 1) < 30)) = true := by rfl)
    (hline : (p2.endLine == p3.line) = true := by rfl) (hplain : (backTo p3 (starEach [] X.env)).any (·.1) = false := by rfl) :
    DS X W (.Expr (.Call (.Attribute (.Name x p1) "append" p2) [e] [] p3) pos) (dApp i pe) :=
  ps_imp (ps_expr (pe_bm PySem.F.plainAttrs_list PySem.F.slot_list_append PySem.F.type_list_append mt_append (pv i hN hv hd hcd) (pa_cons he pa_nil hs) hbase hfew hline hs hplain)) fun D σ H ⟨g, ρ, M, F, O, P, w, A, ⟨h0, h⟩, hw, k1, _⟩ => by
    obtain ⟨l0, e0⟩ := isOwn_of h0
    obtain ⟨v, hv', l, xs, rfl, hl, rl, hO⟩ := A.sl i _ e0
    refine ⟨.ref l, hv', .inl ⟨rfl, xs, .inl (.inl hl)⟩, g, ρ, M, F, O, _, w, A, h, hw, fun u H1 F1 O1 M1 d A1 s1 r1 q1 => ?_⟩
    obtain ⟨l1, e1, hz, q2⟩ := appR_of q1
    obtain ⟨v2, hv2, l2, ys, ev, hl2, rl2, hO2⟩ := A1.sl i _ e1
    rw [hv'] at hv2
    cases hv2
    cases ev
    refine ⟨l, ys, u, rfl, rfl, hl2, by rw [← rl2.len]; exact line_lt hz, ?_⟩
    exact k1 _ _ _ _ F1 O1 (A1.chg (xs := ys) e1 hv' hO2 (rl2.app (show RpL X.K F1 [d] [u] from ⟨u, [], rfl, r1, rfl⟩))) s1 q2
end
end Px
set_option Elab.async false
set_option linter.all false
set_option maxRecDepth 100000
namespace PySem
open Sem (wp)
set_option maxHeartbeats 1000000 in
theorem px_meets_enum1 {v : Value} {o : Obj} {H : Heap → Prop} (B : Begins v o H) :
    Meets (Builtin.«enumerate.__new__» ⟨[.type "enumerate", v], []⟩) (fun _ R s => H s.heap ∧
      R (.ok (.ret (.ref (s.heap.push o).objs.size))) { s with heap := (s.heap.push o).push { cls := .type "enumerate", data := .fields #[.none, .bool false, .ref s.heap.objs.size, rawInt 0, .none, .none] } }) :=
  .of_wp fun prog w A R s h => by
    obtain ⟨hp, g, d, tk, os⟩ := s; obtain ⟨h1, h⟩ := h
    have hsub := sub_enumerate
    have q1 : ∀ {A' : Around} {E : Value → Shared → Prop} {Q : Value → Shared → Prop}, Q (.ref hp.objs.size) ⟨hp.push o, g, d, tk, os⟩ → wpAny (model prog w) A' (pyIter v) Q E ⟨hp, g, d, tk, os⟩ :=
      fun q => B.iter prog w _ _ ⟨hp, g, d, tk, os⟩ _ h1 q
    wp_walk using q1
    refine wpAny_stack_any fun st => wpAny_pure ?_
    split
    · rename_i c _ _ _ _ _
      cases (c == Value.type "enumerate")
      · wp_walk using q1
        exact ⟨_, rfl, h⟩
      · wp_walk using q1
        exact ⟨_, rfl, h⟩
    · wp_walk using q1
      exact ⟨_, rfl, h⟩
section
variable {prog : Program} {w : World} {A : Around} {E : Value → Shared → Prop} {s : Shared}
theorem px_enum1 {v : Value} {o : Obj} {H : Heap → Prop} {Q : Value → Shared → Prop} (B : Begins v o H) (h1 : H s.heap)
    (h : ∀ h', IsEnum h' (s.heap.objs.size + 1) s.heap.objs.size 0 .none → h'.get? s.heap.objs.size = some o → h'.objs.size = s.heap.objs.size + 2 →
      (∀ b o, s.heap.get? b = some o → h'.get? b = some o) → Q (.ref (s.heap.objs.size + 1)) { s with heap := h' }) :
    wpAny (model prog w) A (call (.type "enumerate") [v]) Q E s := by
  refine callType_new F.called_enumerate (by decide) (F.typeCall_enumerate_1 _) (F.newCall_enumerate_1 _) (fun obj => F.args_object_init_2 obj _) F.entry_enumerate_new
    (px_meets_enum1 B) ⟨h1, ?_⟩
  have hz : (s.heap.push o).objs.size = s.heap.objs.size + 1 := Heap.size_push ..
  show _ ∧ _
  rw [hz]
  have he : IsEnum ((s.heap.push o).push { cls := .type "enumerate", data := .fields #[.none, .bool false, .ref s.heap.objs.size, rawInt 0, .none, .none] }) (s.heap.objs.size + 1) s.heap.objs.size 0 .none := by
    have := Heap.get?_push_size (s.heap.push o) (o := { cls := .type "enumerate", data := .fields #[.none, .bool false, .ref s.heap.objs.size, rawInt 0, .none, .none] }) rfl
    rw [hz] at this; exact this
  refine ⟨⟨_, he, rfl⟩, h _ he (Heap.get?_push_of_some _ (Heap.get?_push_size _ B.free)) (by rw [Heap.size_push, hz]) fun b o x => Heap.get?_push_of_some _ (Heap.get?_push_of_some _ x)⟩
theorem px_enum_endT {e it t : Addr} {i : Nat} {k : Int} {items : Array Value} {old : Value} {Q : Option Value → Shared → Prop} (hh : A.handled = none)
    (he : IsEnum s.heap e it k old) (hit : s.heap.IsTupleIter it t i) (ht : s.heap.IsTuple t items) (hx : items[i]? = none)
    (hQ : ∀ h', Heap.ExtBut it s.heap h' → Q none { s with heap := h' }) : wpAny (model prog w) A (pyNext (.ref e)) Q E s := by
  have hT : s.TypeIs (.ref e) "enumerate" := ⟨_, he, rfl⟩
  unfold pyNext
  refine wpAny_bind (wpAny_attempt (wpAny_callSpecial?_slot (name := Str.ofString "__next__") hT F.slot_enumerate_next
    (wpAny_call_entry F.slot_enumerate_next hT F.entry_enumerate_next ?_ (F.args_enumerate_next_1 _))))
  show wpAny _ _ (field (.ref e) 2 >>= _) _ _ _
  refine wpAny_bind (wpAny_field he rfl (x := .ref it) rfl ?_)
  refine wpAny_bind (wpAny_nextOf_tuple_end (A := A.in1) (show A.in1.handled = none from hh) hit ht hx fun h' x he' hx' => ?_)
  obtain ⟨o, ho, hc⟩ := hx'
  refine wpAny_bind (wpAny_isInstance (T := "StopIteration") (b := true) ⟨o, ho, hc⟩ isSubtype_stop ?_)
  exact wpAny_pure (hQ _ he')
end
end PySem
namespace Px
open PySem PySem.Spec PyProof.Rows L2
def Iteu (K : PySem.W.Frag) (a : Addr) : It :=
  ⟨fun i H => ∃ (xs : List V) (x : V), SqT K H a xs ∧ xs[i]? = some x, fun i H v H' => ∃ T x, v = .ref T ∧ H T = none ∧ H' = upd H T (.tup [.int (i : Nat), x]) ∧ ∀ xs, SqT K H a xs → xs[i]? = some x, fun i H => ∃ xs : List V, SqT K H a xs ∧ xs.length ≤ i⟩
theorem turn_enumT {P : Program} {w : World} {K : PySem.W.Frag} {elts : List Expr} {kk : Nat} {tpos : Pos} (a e it : Addr) (hna : a ≠ it) :
    Turn P w K (.Tuple elts kk tpos) (Iteu K a) [e, it] e (fun i h => (∃ old, IsEnum h e it ((i : Nat) : Int) old) ∧ h.IsTupleIter it a i ∧ e ≠ it ∧ e ≠ a) where
  mem := by simp
  obj := fun i h st b hb => by
    obtain ⟨⟨old, he⟩, ⟨o, ho, hc, hd⟩, _⟩ := st
    have e' : b = e ∨ b = it := by simpa using hb
    rcases e' with z | z
    · rw [z]; exact ⟨_, he, fun v q => nomatch q⟩
    · rw [z]; exact ⟨o, ho, fun v q => by rw [hd] at q; cases q⟩
  keep := fun i h h' st k => let ⟨⟨old, he⟩, hi, hne⟩ := st; ⟨⟨old, k e (by simp) _ he⟩, hi.at fun o q => k it (by simp) o q, hne⟩
  item := by
    intro X hP hw hK hc i pins s σ H E I hf st hg
    subst hP hw hK
    obtain ⟨⟨old, he⟩, hit, hne, hea⟩ := st
    obtain ⟨xs, x, hq, hx⟩ := hg
    obtain ⟨its, rv, p, hz⟩ := I.tuple hq
    obtain ⟨u, hu, ru⟩ := rv.get hx
    have hel : e < s.heap.objs.size := Heap.lt_size he
    have hil : it < s.heap.objs.size := by obtain ⟨_, q, _⟩ := hit; exact Heap.lt_size q
    have pt : s.heap.IsTuple a its.toArray := p
    have hlt : i < its.toArray.size := by
      have := (List.getElem?_eq_some_iff.mp hu).1
      simpa using this
    refine wpAny_pyNext_enum_itemD (Draws.tuple (A := X.A.in1) (show X.A.in1.handled = none from I.ok.hd hc) it a hna its.toArray) he ⟨hit, pt⟩ hlt hne (by simp [hne, hea]) fun y h' tk hy ho hst hT hsz hk => ?_
    have hy' : y = u := by
      have q : its.toArray[i]? = some y := hy
      have q2 : its.toArray[i]? = some u := by simpa using hu
      rw [q2] at q; cases q; rfl
    subst hy'
    refine ⟨_, rfl, wpAny_letOwnedTupleGo_enum (s := { s with heap := h', toks := tk + 1 }) ho fun h'' he' sb => ?_⟩
    have hT2 : h''.get? s.heap.objs.size = some { cls := .type "tuple", data := .seq #[.int i tk, y] } := (sb.2 _ (Nat.ne_of_gt hel)).trans hT
    have new : ObjOk X.prog X.w (upd H s.heap.objs.size (.tup [.int (i : Nat), x])) h'' s.heap.objs.size (.tup [.int (i : Nat), x]) :=
      ⟨by show 2 ≤ sizeLine; decide, [.int i tk, y], .cons ⟨_, rfl⟩ (.cons ru .nil), ⟨_, hT2, rfl, _, rfl⟩⟩
    have I1 : Inv X pins σ (upd H s.heap.objs.size (.tup [.int (i : Nat), x])) { s with heap := h'', toks := tk + 1 } :=
      I.turnedNew (ch := [e, it]) (fun b ob hb q => (sb.2 b (fun z => hb (by simp [z]))).trans (hk b ob (fun z => hb (by simp [z])) (fun z => hb (by simp [z])) q)) hf (Nat.le_refl _) new
    refine ⟨.ref s.heap.objs.size, _, I1, rfl, ⟨_, x, rfl, I.hok.fresh (Nat.le_refl _), rfl, fun ys hy => by rw [I.tuple_inj hy hq]; exact hx⟩, ⟨⟨y, ?_⟩, hst.1.at fun o q => (sb.2 it (Ne.symm hne)).trans q, hne, hea⟩, fun b hb => ?_⟩
    · have e1 : ((i + 1 : Nat) : Int) = (i : Int) + 1 := by omega
      rw [e1]; exact he'
    · have hb' : b < s.heap.objs.size := by
        have e' : b = e ∨ b = it := by simpa using hb
        rcases e' with z | z
        · rw [z]; exact hel
        · rw [z]; exact hil
      rw [upd_ne (Nat.ne_of_lt hb')]
      exact (hf b hb).1
  done := by
    intro X hP hw hK hc i pins s σ H E I hf st hg
    subst hP hw hK
    obtain ⟨⟨old, he⟩, hit, hne, hea⟩ := st
    obtain ⟨xs, hq, hx⟩ := hg
    obtain ⟨its, rv, p, hz⟩ := I.tuple hq
    obtain ⟨f0, f1, f2, f3, f4, f5⟩ := hf it (by simp)
    have hl := rv.length
    have pt : s.heap.IsTuple a its.toArray := p
    exact px_enum_endT (I.ok.hd hc) he hit pt (by simp; omega) fun h' eb => ⟨rfl, I.turned (t' := s.toks) (fun b o hb q => eb b o hb q) f0 f1 f3 f4 f5⟩
  self := fun A i s Q E st h => let ⟨⟨_, he⟩, _⟩ := st; wpAny_pyIter_enum he h
section
variable {X : Cx} {W : WX} {tg e a b : Expr} {pe pa pb : PTE} {pl : PTA} {pos p tpos : Pos} {elts : List Expr} {kk : Nat}
def iAny (K : PySem.W.Frag) (tl : TE) : TI := fun σ H R => tl σ H fun x H1 => ∃ a, x = .ref a ∧ (((∃ xs, SqL K H1 a xs) ∧ R (Itl K a) H1) ∨ ((∃ xs, SqT K H1 a xs) ∧ R (Itt K a) H1))
theorem pi_any {tl : TE} (hl : PE X e tl) : PI X tg e (iAny X.K tl) := by
  refine ⟨fun pins s σ H R I h => ?_⟩
  refine thn (hl.run pins s σ H _ I h) fun v s1 ⟨x, H1, I1, r1, q1⟩ => ?_
  obtain ⟨a, e, (⟨⟨xs, hq⟩, q⟩ | ⟨⟨xs, hq⟩, q⟩)⟩ := q1
  · subst e
    cases r1
    obtain ⟨its, rv, p, hz⟩ := I1.list hq
    refine wpAny_pyIter_list p.isList ?_
    refine ⟨s1.heap.objs.size, [s1.heap.objs.size], _, _, H1, rfl, I1.kept (t' := s1.toks) fun b o e => Heap.get?_push_of_some _ e, turn_list a _, ⟨_, Heap.get?_push_size _ rfl, rfl, rfl⟩, fun b hb => ?_, q⟩
    have e : b = s1.heap.objs.size := by simpa using hb
    subst e
    exact I1.fpOk (Nat.le_refl _) (I1.hok.fresh (Nat.le_refl _))
  · subst e
    cases r1
    obtain ⟨its, rv, p, hz⟩ := I1.tuple hq
    refine wpAny_pyIter_tuple (show s1.heap.IsTuple a its.toArray from p) ?_
    refine ⟨s1.heap.objs.size, [s1.heap.objs.size], _, _, H1, rfl, I1.kept (t' := s1.toks) fun b o e => Heap.get?_push_of_some _ e, turn_tuple a _, ⟨_, Heap.get?_push_size _ rfl, rfl, rfl⟩, fun b hb => ?_, q⟩
    have e : b = s1.heap.objs.size := by simpa using hb
    subst e
    exact I1.fpOk (Nat.le_refl _) (I1.hok.fresh (Nat.le_refl _))
def iEnumA (K : PySem.W.Frag) (ta : TA) : TI := fun σ H R => ta σ H fun vs H1 => ∃ a xs, vs = [.ref a] ∧ ((SqL K H1 a xs ∧ R (Ite K a) H1) ∨ (SqT K H1 a xs ∧ R (Iteu K a) H1))
theorem pi_enumA {ta : TA} (hg : Gl X "enumerate") (hm : X.mg "enumerate" = none) (ha : PA X [e] ta) (hs : starEach [e] X.env = [(false, eval e X.env)] := by rfl) :
    PI X (.Tuple elts kk tpos) (.Call (.Name "enumerate" p) [e] [] pos) (iEnumA X.K ta) := by
  refine ⟨fun pins s σ H R I h => ?_⟩
  refine Call_ (ld_blt I hg hm boot_enumerate (PyProof.Rows.callWith_type1 (thn (ha.run pos pins s σ H _ I h) fun us s1 ⟨vs, H1, I1, r1, q1⟩ => ?_) hs rfl))
  obtain ⟨a, xs, ex, q1⟩ := q1
  subst ex
  cases r1 with
  | cons r rr =>
    cases rr
    cases r
    rcases q1 with ⟨hq, q⟩ | ⟨hq, q⟩
    · obtain ⟨its, rv, p', hz⟩ := I1.list hq
      refine call_enumerate_list p'.isList fun h' he hit hsz hk => wpAny_pyIter_enum he ?_
      have I2 : Inv X pins σ H1 { s1 with heap := h' } := I1.kept (t' := s1.toks) hk
      refine ⟨s1.heap.objs.size + 1, [s1.heap.objs.size + 1, s1.heap.objs.size], _, _, H1, rfl, I2, turn_enum a (s1.heap.objs.size + 1) s1.heap.objs.size, ⟨⟨.none, he⟩, hit, Nat.succ_ne_self _⟩, fun b hb => ?_, q⟩
      have e' : b = s1.heap.objs.size + 1 ∨ b = s1.heap.objs.size := by simpa using hb
      have hle : s1.heap.objs.size ≤ b := by
        rcases e' with z | z
        · rw [z]; exact Nat.le_add_right _ _
        · rw [z]; exact Nat.le_refl _
      exact I1.fpOk hle (I1.hok.fresh hle)
    · obtain ⟨its, rv, p', hz⟩ := I1.tuple hq
      have pt : s1.heap.IsTuple a its.toArray := p'
      have hal : a < s1.heap.objs.size := by obtain ⟨o, q, _⟩ := pt; exact Heap.lt_size q
      refine px_enum1 (begins_tuple a its.toArray) pt fun h' he hit hsz hk => wpAny_pyIter_enum he ?_
      have I2 : Inv X pins σ H1 { s1 with heap := h' } := I1.kept (t' := s1.toks) hk
      refine ⟨s1.heap.objs.size + 1, [s1.heap.objs.size + 1, s1.heap.objs.size], _, _, H1, rfl, I2, turn_enumT a (s1.heap.objs.size + 1) s1.heap.objs.size (Nat.ne_of_lt hal), ⟨⟨.none, he⟩, ⟨_, hit, rfl, rfl⟩, Nat.succ_ne_self _, Nat.ne_of_gt (Nat.lt_succ_of_lt hal)⟩, fun b hb => ?_, q⟩
      have e' : b = s1.heap.objs.size + 1 ∨ b = s1.heap.objs.size := by simpa using hb
      have hle : s1.heap.objs.size ≤ b := by
        rcases e' with z | z
        · rw [z]; exact Nat.le_add_right _ _
        · rw [z]; exact Nat.le_refl _
      exact I1.fpOk hle (I1.hok.fresh hle)
def iA (pe : PTE) : PTA := fun w ρ M q => pe w ρ M fun d M' => match d with | .lst l => q l M' | .tup l => q l M' | .scr ns => q (ns.map .int) M' | _ => False
theorem di_any (h : DE X W e pe) : DI X W tg e (iA pe) := pi_imp (pi_any h) fun σ H R ⟨g, ρ, M, F, O, q, w, A, pr, hw, k⟩ =>
  ⟨g, ρ, M, F, O, _, w, A, pr, hw, fun v H' F' O' M' d A' s r q => by
    cases d with
    | lst l =>
      obtain ⟨a, xs, e, hs, rl⟩ := r
      exact ⟨a, e, .inl ⟨⟨xs, .inl (.inl (A'.sub _ _ hs))⟩, k _ H' F' O' M' l A' s (wk_list (.inl (.inl hs)) rl) q⟩⟩
    | tup l =>
      obtain ⟨a, xs, e, hs, rl⟩ := r
      exact ⟨a, e, .inr ⟨⟨xs, same_t A'.sub hs⟩, k _ H' F' O' M' l A' s (wk_tup hs rl) q⟩⟩
    | scr ns =>
      obtain ⟨a, e, hs⟩ := r
      exact ⟨a, e, .inl ⟨⟨_, same_l A'.sub hs⟩, k _ H' F' O' M' _ A' s (wk_list hs (RpL.of_ints ns)) q⟩⟩
    | _ => exact (show False from q).elim⟩
theorem wk_enumT {K : PySem.W.Frag} {F : Hp} {a : Addr} {xs : List V} {ds : List D} (h : SqT K F a xs) (r : RpL K F ds xs) : Wk K (Iteu K a) F (enumD 0 ds) where
  go := fun g σ ρ M F' O H i A s hi => by
    rw [enumD_len] at hi
    exact ⟨xs, xs[i]'(by rw [← r.len]; exact hi), same_t (s.trans A.sub) h, List.getElem?_eq_getElem _⟩
  yl := fun g σ ρ M F' O H i x H' d A s ⟨T, y, ex, hT, eH, hx⟩ hd => by
    rw [enumD_get] at hd
    cases q : ds[i]? with
    | none => rw [q] at hd; cases hd
    | some d0 =>
      rw [q] at hd
      cases hd
      obtain ⟨z, h1, h2⟩ := r.get q
      have e2 := hx xs (same_t (s.trans A.sub) h)
      rw [h1] at e2
      have e3 : z = y := Option.some.inj e2
      subst e3 eH ex
      have sn := same_new (o := .tup [.int (i : Nat), z]) (A.f0 hT)
      exact ⟨_, A.lay hT, sn, T, _, rfl, .inl (.inl upd_same), .int (i : Nat), _, rfl, by rw [Nat.zero_add]; rfl, z, _, rfl, Rp.mono (s.trans sn) _ _ h2, rfl⟩
  sp := fun g σ ρ M F' O H A s => ⟨xs, same_t (s.trans A.sub) h, by rw [enumD_len, r.len]; exact Nat.le_refl _⟩
def iEA (pe : PTE) : PTA := fun w ρ M q => pe w ρ M fun d M' => match d with | .lst l => q (enumD 0 l) M' | .tup l => q (enumD 0 l) M' | _ => False
theorem di_enumA (hg : Gl X "enumerate") (hm : X.mg "enumerate" = none) (ha : DE X W a pa) (he : starEach [a] X.env = (false, eval a X.env) :: starEach [] X.env := by rfl) (hs : starEach [a] X.env = [(false, eval a X.env)] := by rfl) :
    DI X W (.Tuple elts kk tpos) (.Call (.Name "enumerate" p) [a] [] pos) (iEA pa) := pi_imp (pi_enumA hg hm (pa_cons ha pa_nil he) hs) fun σ H R ⟨g, ρ, M, F, O, q, w, A, pr, hw, k⟩ =>
  ⟨g, ρ, M, F, O, _, w, A, pr, hw, fun v H' F' O' M' d A' s r q => by
    cases d with
    | lst l =>
      obtain ⟨a, xs, e, hs, rl⟩ := r
      exact ⟨a, xs, by rw [e], .inl ⟨.inl (.inl (A'.sub _ _ hs)), k _ H' F' O' M' _ A' s (wk_enum (.inl (.inl hs)) rl) q⟩⟩
    | tup l =>
      obtain ⟨a, xs, e, hs, rl⟩ := r
      exact ⟨a, xs, by rw [e], .inr ⟨same_t A'.sub hs, k _ H' F' O' M' _ A' s (wk_enumT hs rl) q⟩⟩
    | _ => exact (show False from q).elim⟩
def fIsi2 (t u : String) : F1 := fun d k => match tyD d with | some a => k (.bl (subTy a t || subTy a u)) | none => False
end
end Px
set_option Elab.async false
set_option linter.all false
set_option maxRecDepth 100000
namespace Px
open PySem PySem.Spec PyProof.Rows L2
section
variable {X : Cx} {W : WX} {tg e a b : Expr} {pe pa pb : PTE} {pl : PTA} {pos p tpos : Pos}
theorem de_isi2 (T U : String) (hT : T ∈ tys) (hU : U ∈ tys) {x2 x3 : Str} {p2 p3 pt : Pos} {kt} (hg : Gl X "isinstance") (hm : X.mg "isinstance" = none) (hg2 : Gl X x2) (hm2 : X.mg x2 = none) (hv2 : bootBuiltins x2 = some (.type T))
    (hg3 : Gl X x3) (hm3 : X.mg x3 = none) (hv3 : bootBuiltins x3 = some (.type U)) (ha : DO X W a pa)
    (hn2 : x2 ≠ "__name__" := by decide) (hd2 : (x2 == ("__debug__" : Str)) = false := by decide) (hn3 : x3 ≠ "__name__" := by decide) (hd3 : (x3 == ("__debug__" : Str)) = false := by decide)
    (he : starEach [a, .Tuple [.Name x2 p2, .Name x3 p3] kt pt] X.env = (false, eval a X.env) :: starEach [.Tuple [.Name x2 p2, .Name x3 p3] kt pt] X.env := by rfl)
    (he2 : starEach [.Tuple [.Name x2 p2, .Name x3 p3] kt pt] X.env = (false, eval (.Tuple [.Name x2 p2, .Name x3 p3] kt pt) X.env) :: starEach [] X.env := by rfl)
    (he3 : starEach [.Name x2 p2, .Name x3 p3] X.env = (false, eval (.Name x2 p2) X.env) :: starEach [.Name x3 p3] X.env := by rfl) (he4 : starEach [.Name x3 p3] X.env = (false, eval (.Name x3 p3) X.env) :: starEach [] X.env := by rfl)
    (hpl : (backTo pos (starEach [.Tuple [.Name x2 p2, .Name x3 p3] kt pt] X.env)).any (·.1) = false := by rfl) : DE X W (.Call (.Name "isinstance" p) [a, .Tuple [.Name x2 p2, .Name x3 p3] kt pt] [] pos) (dB1 (fIsi2 T U) pa) :=
  pe_imp (pe_callB call_isiT hg hm (by decide +kernel) (pa_cons ha (pa_cons (pe_tup (pa_cons (pe_bltn (v := .ty T) hg2 hm2 hv2 rfl hn2 hd2) (pa_cons (pe_bltn (v := .ty U) hg3 hm3 hv3 rfl hn3 hd3) pa_nil he4) he3)) pa_nil he2) he) (by decide) (by decide) he hpl) fun σ H Q ⟨g, ρ, M, F, O, q, w, A, p, hw, k⟩ =>
  ⟨g, ρ, M, F, O, _, w, A, p, hw, fun v H1 F1 O1 M1 d A1 s1 r1 q1 => ⟨by show 2 ≤ sizeLine; decide, fun tp hp => by
    cases e : tyD d with
    | none => simp only [fIsi2, e] at q1
    | some t =>
      simp only [fIsi2, e] at q1
      have A2 := A1.laid (o := .tup [.ty T, .ty U]) hp
      refine ⟨v, tp, [.ty T, .ty U], _, [.type T, .type U], subTy t T || subTy t U, rfl, upd_same, .cons (.ty T) (.cons (.ty U) .nil), vw_ty A2 r1 e, ?_, k (.bl (subTy t T || subTy t U)) _ F1 O1 M1 (.bl (subTy t T || subTy t U)) A2 s1 rfl q1⟩
      refine kitAny_cons (kit_ty (kit_tys t (tyD_mem e) T hT)) (fun h1 => ?_) (fun h1 => by rw [h1]; rfl)
      rw [h1, Bool.false_or]
      exact kitAny_cons (kit_ty (kit_tys t (tyD_mem e) U hU)) (fun h2 => by rw [h2]; exact kitAny_nil) (fun h2 => h2)⟩⟩
def pick {α : Type} (ix : List Nat) (l : List α) : List α := ix.filterMap fun i => l[i]?
abbrev DK (X : Cx) (W : WX) (ks : List Keyword) (p : PTA) : Prop := PK X ks (realA X.K W p)
theorem dk_nil : DK X W [] dNil := ⟨fun pos pins s σ H Q I ⟨g, ρ, M, F, O, q, w, A, p, hw, k⟩ => pk_nil.run pos pins s σ H Q I (k [] H F O M [] A (Same.refl F) rfl p)⟩
theorem dk_cons {nm : Option Str} {kpos : Pos} {kws : List Keyword} (ha : DE X W e pe) (hr : DK X W kws pl) : DK X W (⟨nm, e, kpos⟩ :: kws) (dCons pe pl) :=
  ⟨fun pos pins s σ H Q I ⟨g, ρ, M, F, O, q, w, A, p, hw, k⟩ => (pk_cons (nm := nm) (kpos := kpos) ha hr).run pos pins s σ H Q I
    ⟨g, ρ, M, F, O, _, w, A, p, hw, fun v H1 F1 O1 M1 d A1 s1 r1 q1 => ⟨g, ρ, M1, F1, O1, _, w, A1, q1, hw.mono s1, fun vs H2 F2 O2 M2 ds A2 s2 r2 q2 => k (v :: vs) H2 F2 O2 M2 (d :: ds) A2 (s1.trans s2) ⟨v, vs, rfl, Rp.mono s2 d v r1, r2⟩ q2⟩⟩⟩
theorem vals_get : ∀ {vs : List V} {us : List Value} (i : Nat), Vals vs us → (∃ v u, vs[i]? = some v ∧ us[i]? = some u ∧ RelV v u) ∨ (vs[i]? = none ∧ us[i]? = none)
  | _, _, _, .nil => .inr ⟨rfl, rfl⟩
  | _, _, 0, .cons r t => .inl ⟨_, _, rfl, rfl, r⟩
  | _, _, i + 1, .cons r t => vals_get i t
theorem vals_pick {vs : List V} {us : List Value} (h : Vals vs us) : ∀ ix : List Nat, Vals (pick ix vs) (pick ix us)
  | [] => .nil
  | i :: r => by
    rcases vals_get i h with ⟨v, u, h1, h2, h3⟩ | ⟨h1, h2⟩
    · unfold pick
      rw [List.filterMap_cons_some h1, List.filterMap_cons_some h2]
      exact .cons h3 (vals_pick h r)
    · unfold pick
      rw [List.filterMap_cons_none h1, List.filterMap_cons_none h2]
      exact vals_pick h r
theorem rpl_get {K : PySem.W.Frag} {F : Hp} : ∀ {ds : List D} {vs : List V} (i : Nat), RpL K F ds vs → (∃ d v, ds[i]? = some d ∧ vs[i]? = some v ∧ Rp K F d v) ∨ (ds[i]? = none ∧ vs[i]? = none)
  | [], vs, i, h => by
    have e : vs = [] := h
    subst e
    exact .inr ⟨rfl, rfl⟩
  | d :: ds, vs, 0, h => by
    obtain ⟨v, r, rfl, h1, h2⟩ := h
    exact .inl ⟨d, v, rfl, rfl, h1⟩
  | d :: ds, vs, i + 1, h => by
    obtain ⟨v, r, rfl, h1, h2⟩ := h
    exact rpl_get i h2
theorem rpl_pick {K : PySem.W.Frag} {F : Hp} {ds : List D} {vs : List V} (h : RpL K F ds vs) : ∀ ix : List Nat, RpL K F (pick ix ds) (pick ix vs)
  | [] => rfl
  | i :: r => by
    rcases rpl_get i h with ⟨v, u, h1, h2, h3⟩ | ⟨h1, h2⟩
    · unfold pick
      rw [List.filterMap_cons_some h1, List.filterMap_cons_some h2]
      exact ⟨u, _, rfl, h3, rpl_pick h r⟩
    · unfold pick
      rw [List.filterMap_cons_none h1, List.filterMap_cons_none h2]
      exact rpl_pick h r
def dCallK (sp : PSp) (ix : List Nat) (pl : PTA) : PTE := fun w ρ M q => pl w ρ M fun ds M1 => sp (pick ix ds) M1 q fun cls fs M2 => w cls fs ρ M2
def KwB (K : PySem.W.Frag) (fd : FuncData) (ps ks : List Str) (ix : List Nat) : Prop := ∀ (s : Shared) (ws : List Value), K.In s.heap → (pick ix ws).length = ps.length → BindsTo s fd ⟨[], ks.zip ws⟩ (ps.zip (pick ix ws))
section
variable {k n : Nat} {f : Addr} {fd : FuncData} {ps ks : List Str} {sp : PSp} {x : Str} {kws : List Keyword} {ix : List Nat}
end
abbrev PTO := PWi → Rho → Mm → (Option Int → Mm → Prop) → Prop
def dNo : PTO := fun _ _ M q => q none M
def asIn (d : D) (k : Int → Prop) : Prop := match d with | .int i => k i | _ => False
def dPt (pe : PTE) : PTO := fun w ρ M q => pe w ρ M fun d M1 => asIn d fun i => q (some i) M1
def realP (K : PySem.W.Frag) (W : WX) (p : PTO) : L2.TO := fun σ H Q => ∃ g ρ M F O q w, Ab K g σ H ρ M F O ∧ p w ρ M q ∧ WOk K g F W w ∧ ∀ o H' F' O' M', Ab K g σ H' ρ M' F' O' → Same F F' → q o M' → Q o H'
abbrev DP (X : Cx) (W : WX) (e : Option Expr) (p : PTO) : Prop := PO X e (realP X.K W p)
theorem dp_no : DP X W none dNo := ⟨fun pins s σ H Q I ⟨g, ρ, M, F, O, q, w, A, p, hw, k⟩ => po_none.run pins s σ H Q I (k none H F O M A (Same.refl F) p)⟩
theorem dp_pt (h : DE X W e pe) : DP X W (some e) (dPt pe) := ⟨fun pins s σ H Q I ⟨g, ρ, M, F, O, q, w, A, p, hw, k⟩ => (po_some h).run pins s σ H Q I
  ⟨g, ρ, M, F, O, _, w, A, p, hw, fun v H1 F1 O1 M1 d A1 s1 r1 q1 => by
    cases d with
    | int i => exact ⟨i, r1, k (some i) H1 F1 O1 M1 A1 s1 q1⟩
    | _ => exact (show False from q1).elim⟩⟩
def cutD (l : List D) (lo hi : Option Int) : List D := (l.drop (HT.sIx l.length 0 lo)).take (HT.sIx l.length l.length hi - HT.sIx l.length 0 lo)
theorem rpl_drop {K : PySem.W.Frag} {F : Hp} : ∀ {ds : List D} {vs : List V} (i : Nat), RpL K F ds vs → RpL K F (ds.drop i) (vs.drop i)
  | [], vs, i, h => by
    have e : vs = [] := h
    subst e
    simp only [List.drop_nil]; rfl
  | d :: ds, vs, 0, h => h
  | d :: ds, vs, i + 1, h => by
    obtain ⟨v, r, rfl, h1, h2⟩ := h
    exact rpl_drop i h2
theorem rpl_take {K : PySem.W.Frag} {F : Hp} : ∀ {ds : List D} {vs : List V} (i : Nat), RpL K F ds vs → RpL K F (ds.take i) (vs.take i)
  | [], vs, i, h => by
    have e : vs = [] := h
    subst e
    simp only [List.take_nil]; rfl
  | d :: ds, vs, 0, h => rfl
  | d :: ds, vs, i + 1, h => by
    obtain ⟨v, r, rfl, h1, h2⟩ := h
    exact ⟨v, r.take i, rfl, h1, rpl_take i h2⟩
theorem rpl_cut {K : PySem.W.Frag} {F : Hp} {ds : List D} {vs : List V} (lo hi : Option Int) (h : RpL K F ds vs) : RpL K F (cutD ds lo hi) (cutV vs lo hi) := by
  unfold cutD cutV
  rw [h.len]
  exact rpl_take _ (rpl_drop _ h)
def slR (d : D) (lo hi : Option Int) (k : D → Prop) : Prop := match d with
  | .lst l => k (.lst (cutD l lo hi))
  | .tup l => k (.tup (cutD l lo hi))
  | _ => False
def dSl (pa : PTE) (plo phi : PTO) : PTE := fun w ρ M q => pa w ρ M fun d M1 => plo w ρ M1 fun l M2 => phi w ρ M2 fun h M3 => slR d l h fun z => q z M3
theorem de_sl {lo hi : Option Expr} {plo phi : PTO} {p2 : Pos} (ha : DO X W a pa) (hl : DP X W lo plo) (hh : DP X W hi phi) : DE X W (.Subscript a (.Slice lo hi none p2) pos) (dSl pa plo phi) :=
  pe_imp (pe_slice (sl_list.or sl_tupA) ha hl hh) fun σ H Q ⟨g, ρ, M, F, O, q, w, A, pr, hw, k⟩ =>
  ⟨g, ρ, M, F, O, _, w, A, pr, hw, fun v H1 F1 O1 M1 d A1 s1 r1 q1 => ⟨g, ρ, M1, F1, O1, _, w, A1, q1, hw.mono s1, fun l H2 F2 O2 M2 A2 s2 q2 => ⟨g, ρ, M2, F2, O2, _, w, A2, q2, hw.mono (s1.trans s2), fun h H3 F3 O3 M3 A3 s3 q3 => by
    have r3 := r1.mono (s2.trans s3)
    cases d with
    | lst ds =>
      obtain ⟨p, xs, e1, h1, rl⟩ := r3.lst A3
      refine .inl ⟨p, xs, e1, .inl (.inl h1), fun t ht => ?_⟩
      have sn := same_new (o := .lst (cutV xs l h)) (A3.f0 ht)
      exact k _ _ _ O3 M3 (.lst (cutD ds l h)) (A3.lay ht) (((s1.trans s2).trans s3).trans sn) ⟨t, _, rfl, upd_same, RpL.mono sn _ _ (rpl_cut l h rl)⟩ q3
    | tup ds =>
      obtain ⟨p, xs, e1, h1, rl⟩ := r3.tupF
      refine .inr ⟨p, xs, e1, same_t A3.sub h1, fun z => ?_, fun z t ht => ?_⟩
      · have ec : cutD ds l h = ds := by
          unfold cutD
          rw [rl.len, z.1, z.2, List.drop_zero, Nat.sub_zero]
          exact List.take_of_length_le (by rw [rl.len]; exact Nat.le_refl _)
        have q4 : q (.tup (cutD ds l h)) M3 := q3
        rw [ec] at q4
        exact k _ _ _ O3 M3 (.tup ds) A3 ((s1.trans s2).trans s3) ⟨p, xs, rfl, h1, rl⟩ q4
      · have sn := same_new (o := .tup (cutV xs l h)) (A3.f0 ht)
        exact k _ _ _ O3 M3 (.tup (cutD ds l h)) (A3.lay ht) (((s1.trans s2).trans s3).trans sn) ⟨t, _, rfl, .inl (.inl upd_same), RpL.mono sn _ _ (rpl_cut l h rl)⟩ q3
    | _ => exact (show False from q3).elim⟩⟩⟩
def fTup : F1
  | .lst l, k => k (.tup l)
  | .tup l, k => k (.tup l)
  | _, _ => False
theorem de_tupc (hg : Gl X "tuple") (hm : X.mg "tuple" = none) (ha : DO X W a pa) (he : starEach [a] X.env = (false, eval a X.env) :: starEach [] X.env := by rfl) (hpl : (backTo pos (starEach [] X.env)).any (·.1) = false := by rfl) :
    DE X W (.Call (.Name "tuple" p) [a] [] pos) (dB1 fTup pa) := de_t1 call_tuple_of (f := fTup) (fun g σ H ρ M F O x v k Q A rx h c => by
    cases x with
    | lst l =>
      obtain ⟨p, xs, e1, h1, rl⟩ := rx.lst A
      refine ⟨p, xs, by rw [e1], .inl ⟨.inl (.inl h1), fun t ht => ?_⟩⟩
      have sn := same_new (o := .tup xs) (A.f0 ht)
      exact c (.tup l) _ _ _ O (A.lay ht) sn ⟨t, _, rfl, .inl (.inl upd_same), RpL.mono sn _ _ rl⟩ h
    | tup l =>
      obtain ⟨p, xs, e1, h1, rl⟩ := rx.tupF
      exact ⟨p, xs, by rw [e1], .inr ⟨same_t A.sub h1, c (.tup l) _ H F O A (Same.refl F) ⟨p, xs, rfl, h1, rl⟩ h⟩⟩
    | _ => exact (show False from h).elim) hg hm (by decide +kernel) ha (by decide) (by decide) he hpl
def dParL3 (i j l : Nat) (pe : PTE) (c : D) : PTS := fun w P ρ M => pe w ρ M fun d M' => P.nx (st (st (st ρ i (.val d)) j (.own [])) l (.val c)) M'
def dParL2 (i j : Nat) (pe : PTE) : PTS := fun w P ρ M => pe w ρ M fun d M' => P.nx (st (st ρ i (.val d)) j (.own [])) M'
theorem ds_parL2 (i j : Nat) {x y : Str} {a : Expr} {px py pt p2 : Pos} {kt k2 pt2} (hc : X.calm = true) (hN : X.N.Nodup) (ha : DE X W a pe) (hi : X.N[i]? = some x := by rfl) (hj : X.N[j]? = some y := by rfl)
    (hij : i ≠ j := by decide) (hx : X.env.scope.names.lookup x = some .local := by rfl) (hy : X.env.scope.names.lookup y = some .local := by rfl)
    (h1 : starEach [a, .List [] p2] X.env = (false, eval a X.env) :: starEach [.List [] p2] X.env := by rfl) (h2 : starEach [.List [] p2] X.env = (false, eval (.List [] p2) X.env) :: starEach [] X.env := by rfl)
    (hw : swappedStores [.Tuple [.Name x px, .Name y py] kt pt] (.Tuple [a, .List [] p2] k2 pt2) X.env = pure (some [x, y]) := by rfl)
    (hs : swapsWithSole [.Tuple [.Name x px, .Name y py] kt pt] (.Tuple [a, .List [] p2] k2 pt2) pos.line X.env = pure false := by rfl) :
    DS X W (.Assign [.Tuple [.Name x px, .Name y py] kt pt] (.Tuple [a, .List [] p2] k2 pt2) pos) (dParL2 i j pe) :=
  ps_imp (ps_par hc hN hi hj hij hx hy (pa_cons ha (pa_cons (pe_lst pa_nil) pa_nil h2) h1) hw hs) fun D σ H ⟨g, ρ, M, F, O, P, w, A, h, hw, k1, _⟩ =>
  ⟨g, ρ, M, F, O, _, w, A, h, hw, fun v H' F' O' M' d A' s r q => ⟨by show 0 ≤ sizeLine; decide, fun t ht => ⟨v, .ref t, rfl,
    k1 _ _ _ M' F' _ (((A'.laid (o := .lst []) ht).put r).putOwn upd_same (l := []) rfl (A'.f0 ht) (A'.o0 ht) (A'.g0 ht)) s q⟩⟩⟩
end
end Px
set_option Elab.async false
set_option linter.all false
set_option maxRecDepth 100000
namespace Px
open PySem PySem.Spec PyProof.Rows L2
theorem kwb_of {K : PySem.W.Frag} {x qual : Str} {st : Stmt} {f : Addr} {fd : FuncData} {ps : List Str} (ks : List Str) (ix : List Nat) (F : L2.Fun K x qual st f fd)
    (h : ∀ (kV doc pm : Value) (an : Option Addr) (cdv ct : Value) (ws : List Value), (pick ix ws).length = ps.length → bindArgs (PySem.W.fnOf x qual (defArgs st) (defBody st) (defScope st) .none kV doc pm an cdv ct) ⟨[], ks.zip ws⟩ = pure (ps.zip (pick ix ws))) : KwB K fd ps ks ix := by
  obtain ⟨oc, od, kV, doc, pm, an, cdv, ct, osl, rfl, lk, hcd⟩ := F.ex
  exact fun s ws _ hl => .of_eq (h kV doc pm an cdv ct ws hl)
end Px
set_option Elab.async false
set_option linter.all false
set_option maxRecDepth 100000
namespace Px
open PySem PySem.Spec PyProof.Rows L2
def fShl : F2
  | .int i, .int j, k => CPow i j ∧ k (.int (i * 2 ^ j.toNat))
  | _, _, _ => False
def fShr : F2
  | .int i, .int j, k => 0 ≤ j ∧ k (.int (i / 2 ^ j.toNat))
  | _, _, _ => False
section
variable {X : Cx} {W : WX} {K : PySem.W.Frag} {a b : Expr} {pa pb : PTE} {pos : Pos}
theorem opf_shl : OpF K (rI CPow fun i j => .int (i * 2 ^ j.toNat)) fShl := opf_i (h' := fun i j => .int (i * 2 ^ j.toNat)) (fun _ _ _ => rfl) fun x y k h => by
  unfold fShl at h
  split at h
  · exact ⟨_, _, rfl, rfl, h⟩
  · exact h.elim
theorem de_shl (ha : DO X W a pa) (hb : DO X W b pb) : DE X W (.BinOp a .LShift b pos) (dOp fShl pa pb) := de_op op_shl opf_shl ha hb
end
def itemsD : D → Option (List Int)
  | .lst l => intsOf l
  | .tup l => intsOf l
  | _ => none
def fInI (neg : Bool) : F2 := fun x y k => match x, itemsD y with
  | .int i, some ns => k (.bl (if neg then !decide (i ∈ ns) else decide (i ∈ ns)))
  | _, _ => False
theorem inV_ints (i : Int) (ns : List Int) : inV (.int i) (ns.map V.int) = decide (i ∈ ns) := by
  unfold inV
  induction ns with
  | nil => rfl
  | cons n r ih =>
    rw [List.map_cons, List.any_cons, ih]
    have e : eqV (.int n) (.int i) = decide (i = n) := by
      show decide (n = i) = decide (i = n)
      by_cases c : n = i
      · subst c; rfl
      · rw [decide_eq_false c, decide_eq_false (fun z => c z.symm)]
    rw [e]
    by_cases c : i = n
    · subst c; simp
    · simp [c]
theorem flat_ints (ns : List Int) : (ns.map V.int).all flatV = true := by
  rw [List.all_eq_true]
  intro x hx
  obtain ⟨n, _, rfl⟩ := List.mem_map.mp hx
  rfl
theorem opf_inI {K : PySem.W.Frag} (neg : Bool) : OpF K (rIn K neg) (fInI neg) := by
  intro g σ H ρ M F O x y v u k Q A rx ry h c
  cases x with
  | int i =>
    have fin : ∀ (p : Addr) (l : List D) (xs : List V), u = .ref p → (SqL K H p xs ∨ SqT K H p xs) → RpL K F l xs → intsOf l = itemsD y → rIn K neg v u H Q := fun p l xs eu hs rl el => by
      cases e : intsOf l with
      | none =>
        rw [e] at el
        simp only [fInI, ← el] at h
      | some ns =>
        rw [e] at el
        simp only [fInI, ← el] at h
        have e1 := intsOf_eq e
        subst e1
        have ex := rl.ints
        subst ex
        refine ⟨p, ns.map V.int, eu, hs, by rw [rx.int]; rfl, flat_ints ns, ?_⟩
        rw [rx.int, inV_ints]
        exact c (.bl (if neg then !decide (i ∈ ns) else decide (i ∈ ns))) _ H F O A (Same.refl F) rfl h
    cases y with
    | lst l =>
      obtain ⟨p, xs, e1, h1, rl⟩ := ry.lst A
      exact fin p l xs e1 (.inl (.inl (.inl h1))) rl rfl
    | tup l =>
      obtain ⟨p, xs, e1, h1, rl⟩ := ry.tupF
      exact fin p l xs e1 (.inr (same_t A.sub h1)) rl rfl
    | _ => exact (show False from h).elim
  | _ => exact (show False from h).elim
section
variable {X : Cx} {W : WX} {a b : Expr} {pa pb : PTE} {pos : Pos}
theorem dt_inI (ha : DO X W a pa) (hb : DO X W b pb) (hm : behindInMarks .In b = false := by rfl) : DT X W (.Compare a [.In] [b] pos) (dTst (dOp (fInI false) pa pb)) := dt_cmp op_in_seq (opf_inI false) ha hb hm
end
end Px
set_option Elab.async false
set_option linter.all false
set_option maxRecDepth 100000
set_option maxHeartbeats 4000000
namespace Px
open PySem PySem.Spec PyProof.Rows L2
section
variable {prog : Program} {w : World} {A : Around} {s : Shared}
end
end Px
set_option Elab.async false
set_option linter.all false
set_option maxRecDepth 100000
set_option maxHeartbeats 4000000
namespace Px
open PySem PySem.Spec PyProof.Rows L2
section
variable {prog : Program} {w : World} {A : Around} {s : Shared} {E : Value → Shared → Prop}
end
end Px
set_option Elab.async false
set_option linter.all false
set_option maxRecDepth 100000
set_option maxHeartbeats 4000000
namespace Px
open PySem PySem.Spec PyProof.Rows L2
section
variable {M : Model} {A : Around} {E : Value → Shared → Prop} {s : Shared}
end
section
variable {prog : Program} {w : World} {A : Around} {s : Shared} {E : Value → Shared → Prop}
end
end Px
set_option Elab.async false
set_option linter.all false
set_option maxRecDepth 100000
namespace Px
open PySem PySem.Spec PyProof.Rows L2
section
variable {prog : Program} {w : World} {A : Around} {s : Shared} {E : Value → Shared → Prop}
end
section
variable {X : Cx}
end
end Px
set_option Elab.async false
set_option linter.all false
set_option maxRecDepth 100000
namespace Px
open PySem PySem.Spec PyProof.Rows L2
section
variable {X : Cx} {pins : List (Addr × Obj)} {σ : L2.St} {H F : Hp} {s : Shared}
end
section
variable {X : Cx} {W : WX} {a : Expr} {pa : PTE} {p pos : Pos}
end
end Px
set_option Elab.async false
set_option linter.all false
set_option maxRecDepth 100000
namespace Px
open PySem PySem.Spec PyProof.Rows L2
structure Cl where
  (BadSpeed BadHalf BadNumber BadStretch BadDoubt BadHalves BadPattern TooGreat NoSpeed BadLook Clash BadProgram BadSayings BadGroups BadBands BadDeed BadLine Rows Net Pattern Program Moment Mark Watch FlashError : Addr)
  tb : Nat → Addr
def isI : D → Bool
  | .int _ => true
  | _ => false
def plain (d : D) : Bool := (tyD d).isSome
def parts (d : D) : Bool := match d with | .tup l => l.all plain | _ => true
def btwD (d : D) (lo hi : Int) : Bool := match d with | .int i => decide (lo ≤ i) && decide (i ≤ hi) | _ => false
def Bd (i : Int) : Prop := i.natAbs < 2 ^ 8000
theorem Bd.div {i : Int} (h0 : 0 < i) (h : Bd i) (j : Int) : CDivW j i := ⟨h0, Nat.lt_trans (PySem.Flt.log2_lt_of (by decide) h) (by decide)⟩
theorem Bd.mul {i j : Int} (h : Bd i) (h' : Bd j) : CMulX i j := mulx_ok h h' (by decide)
theorem Bd.le {i j : Int} (h : Bd j) (h0 : 0 ≤ i) (h1 : i ≤ j) : Bd i := Nat.lt_of_le_of_lt (by omega) h
theorem Bd.small {i : Int} (h0 : -(2 ^ 200) ≤ i) (h1 : i ≤ 2 ^ 200) : Bd i := by
  have e : i.natAbs ≤ 2 ^ 200 := by omega
  exact Nat.lt_of_le_of_lt e (Nat.pow_lt_pow_right (by decide) (by decide))
theorem cmul_of {i j : Int} {a b : Nat} (ha : i.natAbs < 2 ^ a) (hb : j.natAbs < 2 ^ b) (h : a + b ≤ 134217728) : CMulX i j := mulx_ok ha hb h
def g0 (a b : Int) : Int := (Int.gcd a b : Int)
def spd (a b : Int) : D := .tup [.int (a / g0 a b), .int (b / g0 a b)]
def near (s t : Int) : Int := if s - t % s < t % s then s - t % s else t % s
def sp_is_integer (C : Cl) : PSp := fun ds M q _ => ar1 ds fun d => plain d = true ∧ q (.bl (isI d)) M
def sp_is_between (C : Cl) : PSp := fun ds M q _ => ar3 ds fun d a b => plain d = true ∧ asI a fun lo => asI b fun hi => q (.bl (btwD d lo hi)) M
def sp_divisor (C : Cl) : PSp := fun ds M q _ => ar2 ds fun a b => asI a fun x => asI b fun y => 0 ≤ x ∧ 0 ≤ y ∧ q (.int (g0 x y)) M
def sp_is_half (C : Cl) : PSp := fun ds M q _ => ar1 ds fun d => plain d = true ∧ q (.bl (btwD d 1 1000)) M
def rd_is_integer (C : Cl) : PTS := (dRet (dAndV (dB1 (fIsi "int") (dVar 0)) (dNotV (dB1 (fIsi "bool") (dVar 0)))))
def rd_is_between (C : Cl) : PTS := (dRet (dAndV (dCall (sp_is_integer C) [] (dCons (dVar 0) dNil)) (dChain fLe fLe (dVar 1) (dVar 0) (dVar 2))))
def rd_divisor (C : Cl) : PTS := (dSeq (dWhile (dTst (dOp fGt (dVar 1) (dC (.int 0)))) (dPar 0 1 (dCons (dVar 1) (dCons (dOp fMod (dVar 0) (dVar 1)) dNil)))) (dRet (dVar 0)))
theorem sh_is_integer (C : Cl) : Shows (sp_is_integer C) 1 (rd_is_integer C) := by
  intro ds M q e h
  obtain ⟨d, rfl, hp, hq⟩ := ar1_of h
  cases d <;> first
    | exact ⟨M, MLe.refl M, hq⟩
    | exact absurd hp (by simp [plain, tyD])
theorem sh_is_between (C : Cl) : Shows (sp_is_between C) 3 (rd_is_between C) := by
  intro ds M q e h
  obtain ⟨d, a, b, rfl, hp, h⟩ := ar3_of h
  obtain ⟨lo, e1, h⟩ := asI_of h
  obtain ⟨hi, e2, hq⟩ := asI_of h
  subst e1 e2
  refine ⟨hp, ?_⟩
  cases d with
  | int i =>
    show if decide (lo ≤ i) = true then _ else _
    by_cases h1 : lo ≤ i
    · refine itT (decide_eq_true h1) ⟨M, MLe.refl M, ?_⟩
      have hq : q (.bl (decide (lo ≤ i) && decide (i ≤ hi))) M := hq
      rw [decide_eq_true h1] at hq
      exact hq
    · refine itF (decide_eq_false h1) ⟨M, MLe.refl M, ?_⟩
      have hq : q (.bl (decide (lo ≤ i) && decide (i ≤ hi))) M := hq
      rw [decide_eq_false h1] at hq
      exact hq
  | _ => first | exact ⟨M, MLe.refl M, hq⟩ | exact absurd hp (by simp [plain, tyD])
theorem g0_step (x y : Int) : g0 y (x % y) = g0 x y := by
  unfold g0
  have e : x % y = x + y * (-(x / y)) := by
    rw [Int.emod_def, Int.mul_neg]; omega
  rw [e, Int.gcd_add_mul_left_right, Int.gcd_comm]
theorem g0_zero {x : Int} (h : 0 ≤ x) : g0 x 0 = x := by
  unfold g0
  rw [Int.gcd_zero_right]
  omega
theorem sh_divisor (C : Cl) : Shows (sp_divisor C) 2 (rd_divisor C) := by
  intro ds M q e h
  obtain ⟨a, b, rfl, h⟩ := ar2_of h
  obtain ⟨x, e1, h⟩ := asI_of h
  obtain ⟨y, e2, h0, h1, hq⟩ := asI_of h
  subst e1 e2
  refine ⟨fun m ρ M' => ∃ x' y' : Int, ρ = [some (.val (.int x')), some (.val (.int y'))] ∧ M' = M ∧ 0 ≤ x' ∧ 0 ≤ y' ∧ g0 x' y' = g0 x y ∧ m = y'.toNat, ⟨_, x, y, rfl, rfl, h0, h1, rfl, rfl⟩, ?_⟩
  rintro m ρ M' ⟨x', y', rfl, rfl, g1, g2, g3, rfl⟩
  by_cases hy : 0 < y'
  · refine itT (decide_eq_true hy) ⟨hy, ?_⟩
    have e1 := Int.emod_nonneg x' (show y' ≠ 0 by omega)
    have e2 := Int.emod_lt_of_pos x' hy
    exact ⟨_, by omega, y', x' % y', rfl, rfl, g2, e1, by rw [g0_step]; exact g3, rfl⟩
  · refine itF (decide_eq_false hy) ⟨M', MLe.refl M', ?_⟩
    have e0 : y' = 0 := by omega
    rw [e0, g0_zero g1] at g3
    rw [g3]
    exact hq
theorem g0_pos {x y : Int} (h : 0 < y) : 0 < g0 x y := by
  have := Int.gcd_pos_iff (a := x) (b := y) |>.mpr (.inr (by omega))
  unfold g0
  omega
theorem g0_le {x y : Int} (h : 0 < y) : g0 x y ≤ y := by
  unfold g0
  exact Int.le_of_dvd h (Int.gcd_dvd_right ..)
def rd_is_half (C : Cl) : PTS := (dRet (dCall (sp_is_between C) [] (dCons (dVar 0) (dCons (dC (.int 1)) (dCons (dC (.int 1000)) dNil)))))
theorem sh_is_half (C : Cl) : Shows (sp_is_half C) 1 (rd_is_half C) := by
  intro ds M q e h
  obtain ⟨d, rfl, hp, hq⟩ := ar1_of h
  exact ⟨hp, M, MLe.refl M, hq⟩
end Px
set_option Elab.async false
set_option linter.all false
set_option maxRecDepth 100000
namespace Px
open PySem PySem.Spec PyProof.Rows L2
theorem g0_mul {g : Int} (hg : 0 < g) (x y : Int) : g0 (g * x) (g * y) = g * g0 x y := by
  unfold g0
  rw [Int.gcd_mul_left]
  have e : (g.natAbs : Int) = g := by omega
  rw [Int.natCast_mul, e]
theorem g0_dvd_l (x y : Int) : g0 x y ∣ x := Int.gcd_dvd_left ..
theorem g0_dvd_r (x y : Int) : g0 x y ∣ y := Int.gcd_dvd_right ..
theorem near_bounds {s : Int} (hs : 0 < s) (t : Int) : 0 ≤ near s t ∧ 2 * near s t ≤ s ∧ (near s t = t % s ∨ near s t = s - t % s) := by
  have a := Int.emod_nonneg t (show s ≠ 0 by omega)
  have b := Int.emod_lt_of_pos t hs
  unfold near
  split <;> omega
theorem near_iff {s : Int} (hs : 0 < s) (x y : Int) : near s x = near s y ↔ (x - y) % s = 0 ∨ (x + y) % s = 0 := by
  have a := Int.emod_nonneg x (show s ≠ 0 by omega)
  have b := Int.emod_lt_of_pos x hs
  have c := Int.emod_nonneg y (show s ≠ 0 by omega)
  have d := Int.emod_lt_of_pos y hs
  have e1 : (x - y) % s = (x % s - y % s) % s := by rw [Int.sub_emod]
  have e2 : (x + y) % s = (x % s + y % s) % s := by rw [Int.add_emod]
  rw [e1, e2]
  unfold near
  generalize x % s = p at *
  generalize y % s = q at *
  have f1 : (p - q) % s = if p < q then p - q + s else p - q := by
    split
    · rw [show (p - q) % s = (p - q + s) % s by rw [Int.add_emod_right]]
      exact Int.emod_eq_of_lt (by omega) (by omega)
    · exact Int.emod_eq_of_lt (by omega) (by omega)
  have f2 : (p + q) % s = if p + q < s then p + q else p + q - s := by
    split
    · exact Int.emod_eq_of_lt (by omega) (by omega)
    · rw [show (p + q) % s = (p + q - s) % s by rw [Int.sub_emod_right]]
      exact Int.emod_eq_of_lt (by omega) (by omega)
  rw [f1, f2]
  split <;> split <;> split <;> split <;> omega
def sp__law_fraction : PSp := fun ds M q _ => ar2 ds fun a b => asI a fun x => asI b fun y => (0 ≤ x ∧ 0 < y ∧ Bd y) ∧ q (spd x y) M
def rd__law_fraction : PTS := (dSeq (dPar 2 3 (dCons (dVar 0) (dCons (dVar 1) dNil)))
    (dSeq (dWhile (dTst (dOp fGt (dVar 3) (dC (.int 0)))) (dPar 2 3 (dCons (dVar 3) (dCons (dOp fMod (dVar 2) (dVar 3)) dNil))))
    (dRet (dTup (dCons (dOp fDiv (dVar 0) (dVar 2)) (dCons (dOp fDiv (dVar 1) (dVar 2)) dNil))))))
theorem sh__law_fraction : Shows sp__law_fraction 4 rd__law_fraction := by
  intro ds M q e h
  obtain ⟨a, b, rfl, h⟩ := ar2_of h
  obtain ⟨x, e1, h⟩ := asI_of h
  obtain ⟨y, e2, ⟨h0, h1, hb⟩, hq⟩ := asI_of h
  subst e1 e2
  have gp := g0_pos (x := x) h1
  have gb := hb.le (Int.le_of_lt gp) (g0_le (x := x) h1)
  refine ⟨fun m ρ M' => ∃ x' y' : Int, ρ = [some (.val (.int x)), some (.val (.int y)), some (.val (.int x')), some (.val (.int y'))] ∧ M' = M ∧ 0 ≤ x' ∧ 0 ≤ y' ∧ g0 x' y' = g0 x y ∧ m = y'.toNat, ⟨_, x, y, rfl, rfl, h0, by omega, rfl, rfl⟩, ?_⟩
  rintro m ρ M' ⟨x', y', rfl, rfl, g1, g2, g3, rfl⟩
  by_cases hy : 0 < y'
  · refine itT (decide_eq_true hy) ⟨hy, ?_⟩
    have e1 := Int.emod_nonneg x' (show y' ≠ 0 by omega)
    have e2 := Int.emod_lt_of_pos x' hy
    exact ⟨_, by omega, y', x' % y', rfl, rfl, g2, e1, by rw [g0_step]; exact g3, rfl⟩
  · have e0 : y' = 0 := by omega
    rw [e0, g0_zero g1] at g3
    subst g3
    exact itF (decide_eq_false hy) ⟨gb.div gp x, gb.div gp y, by show 2 ≤ 1000000; decide, M', MLe.refl M', hq⟩
end Px
set_option Elab.async false
set_option linter.all false
set_option maxRecDepth 100000
namespace Px
open PySem PySem.Spec PyProof.Rows L2
theorem compR_fm {gd : PTG} {tt : PTT} {te : PTE} {ρ : Rho} {M : Mm} {q : List D → Mm → Prop} (fm : D → Option D) : ∀ (ds acc : List D),
    (∀ d ∈ ds, ∀ (kt : D → Mm → Prop) (kf : Mm → Prop), (match fm d with | some y => kt y M | none => kf M) → gd d ρ fun ρ' => tt w0 ρ' M fun b M1 => if b = true then te w0 ρ' M1 kt else kf M1) →
    acc.length + ds.length ≤ 1000000 → q (acc ++ ds.filterMap fm) M → compR gd tt te ρ ds acc M q
  | [], acc, _, _, h => by
    have h : q (acc ++ []) M := h
    rw [List.append_nil] at h
    exact h
  | d :: r, acc, hb, hl, h => by
    have hl : acc.length + (r.length + 1) ≤ 1000000 := hl
    refine hb d List.mem_cons_self _ _ ?_
    rw [List.filterMap_cons] at h
    cases e : fm d with
    | some y =>
      rw [e] at h
      refine ⟨by omega, compR_fm fm r (acc ++ [y]) (fun d' h' => hb d' (List.mem_cons_of_mem _ h')) (by rw [List.length_append, List.length_singleton]; omega) ?_⟩
      rw [List.append_assoc]
      exact h
    | none =>
      rw [e] at h
      exact compR_fm fm r acc (fun d' h' => hb d' (List.mem_cons_of_mem _ h')) (by omega) h
theorem compR_map {gd : PTG} {tt : PTT} {te : PTE} {ρ : Rho} {M : Mm} {q : List D → Mm → Prop} (f : D → D) (ds : List D)
    (hb : ∀ d ∈ ds, ∀ (kt : D → Mm → Prop) (kf : Mm → Prop), kt (f d) M → gd d ρ fun ρ' => tt w0 ρ' M fun b M1 => if b = true then te w0 ρ' M1 kt else kf M1) (hl : ds.length ≤ 1000000)
    (h : q (ds.map f) M) : compR gd tt te ρ ds [] M q := by
  refine compR_fm (fun d => some (f d)) ds [] (fun d hd kt kf k => hb d hd kt kf k) (by simpa using hl) ?_
  rw [List.nil_append, show ds.filterMap (fun d => some (f d)) = ds.map f by rw [← List.filterMap_eq_map]; rfl]
  exact h
theorem compR_flt {gd : PTG} {tt : PTT} {te : PTE} {ρ : Rho} {M : Mm} {q : List D → Mm → Prop} (p : D → Bool) (ds : List D)
    (hb : ∀ d ∈ ds, ∀ (kt : D → Mm → Prop) (kf : Mm → Prop), (if p d = true then kt d M else kf M) → gd d ρ fun ρ' => tt w0 ρ' M fun b M1 => if b = true then te w0 ρ' M1 kt else kf M1) (hl : ds.length ≤ 1000000)
    (h : q (ds.filter p) M) : compR gd tt te ρ ds [] M q := by
  refine compR_fm (fun d => if p d = true then some d else none) ds [] (fun d hd kt kf k => hb d hd kt kf ?_) (by simpa using hl) ?_
  · by_cases c : p d = true
    · rw [if_pos c] at k ⊢; exact k
    · rw [if_neg c] at k ⊢; exact k
  · have e : ds.filterMap (fun d => if p d = true then some d else none) = ds.filter p := by
      clear h hl hb
      induction ds with
      | nil => rfl
      | cons d r ih => rw [List.filterMap_cons, List.filter_cons, ih]; by_cases c : p d = true <;> simp [c]
    rw [List.nil_append, e]
    exact h
theorem forR_ind {gd : PTG} {pb : PTS} {w : PWi} {P : PEnds} (I : List D → Rho → Mm → Prop) (hb : ∀ d r ρ M, I (d :: r) ρ M → ∀ F : Rho → Mm → Prop, (∀ ρ' M', I r ρ' M' → F ρ' M') → gd d ρ fun ρ' => pb w { P with nx := F, ct := F, bk := P.nx } ρ' M)
    (he : ∀ ρ M, I [] ρ M → P.nx ρ M) : ∀ (ds : List D) (ρ : Rho) (M : Mm), I ds ρ M → forR gd pb w ds P ρ M
  | [], ρ, M, h => he ρ M h
  | d :: r, ρ, M, h => hb d r ρ M h _ fun ρ' M' h' => forR_ind I hb he r ρ' M' h'
theorem forR_ix {gd : PTG} {pb : PTS} {w : PWi} {P : PEnds} (I : Nat → Rho → Mm → Prop) : ∀ (ds : List D) (k : Nat), (∀ i d, ds[i]? = some d → ∀ F : Rho → Mm → Prop, (∀ ρ M, I (k + i + 1) ρ M → F ρ M) → ∀ ρ M, I (k + i) ρ M → gd d ρ fun ρ' => pb w { P with nx := F, ct := F, bk := P.nx } ρ' M) →
    (∀ ρ M, I (k + ds.length) ρ M → P.nx ρ M) → ∀ ρ M, I k ρ M → forR gd pb w ds P ρ M
  | [], k, _, he, ρ, M, h => he ρ M h
  | d :: ds, k, hb, he, ρ, M, h => hb 0 d rfl _ (fun ρ' M' h' => forR_ix I ds (k + 1) (fun i d' hd' F hF ρ2 M2 h2 => hb (i + 1) d' hd' F (fun ρ3 M3 h3 => hF ρ3 M3 (by
      have e : k + 1 + i + 1 = k + (i + 1) + 1 := by omega
      rw [e]; exact h3)) ρ2 M2 (by
      have e : k + (i + 1) = k + 1 + i := by omega
      rw [e]; exact h2)) (fun ρ2 M2 h2 => he ρ2 M2 (by
      have e : k + (d :: ds).length = k + 1 + ds.length := by rw [List.length_cons]; omega
      rw [e]; exact h2)) ρ' M' h') ρ M h
def sp_frac2 : PSp := fun ds M q _ => ar2 ds fun a b => asI a fun x => asI b fun y => (0 ≤ x ∧ 0 < y ∧ Bd y) ∧ ∀ d, d = spd x y → q d M
theorem sh_frac2 : Shows sp_frac2 4 rd__law_fraction := by
  intro ds M q e h
  obtain ⟨a, b, rfl, h⟩ := ar2_of h
  obtain ⟨x, e1, h⟩ := asI_of h
  obtain ⟨y, e2, hc, hq⟩ := asI_of h
  subst e1 e2
  exact sh__law_fraction _ M q e ⟨hc, hq _ rfl⟩
class SzB (n : outParam Nat) (i : Int) : Prop where
  h : i.natAbs < 2 ^ n
theorem SzB.of {n : Nat} {i : Int} (h0 : -(2 ^ n) < i) (h1 : i < 2 ^ n) : SzB n i := ⟨by
  have e : ((2 ^ n : Nat) : Int) = 2 ^ n := by rw [Int.natCast_pow]; rfl
  omega⟩
theorem SzB.mulX {i j : Int} {m n : Nat} (a : SzB m i) (b : SzB n j) (h : m + n ≤ 134217728 := by decide) : CMulX i j := cmul_of a.h b.h h
theorem SzB.bd {i : Int} {m : Nat} (a : SzB m i) (h : m ≤ 8000 := by decide) : Bd i := Nat.lt_of_lt_of_le a.h (Nat.pow_le_pow_right (by decide) h)
theorem SzB.divX {i j : Int} {m : Nat} (h0 : 0 < i) (a : SzB m i) (h : m ≤ 8000 := by decide) : CDivW j i := (a.bd h).div h0 j
theorem SzB.log {i : Int} {m : Nat} (a : SzB m i) (h : m ≤ 8000 := by decide) : i.natAbs.log2 < 9000 := Nat.lt_trans (PySem.Flt.log2_lt_of (by decide) (a.bd h)) (by decide)
theorem SzB.mono {i : Int} {m n : Nat} (a : SzB m i) (h : m ≤ n) : SzB n i := ⟨Nat.lt_of_lt_of_le a.h (Nat.pow_le_pow_right (by decide) h)⟩
theorem SzB.le {i j : Int} {m : Nat} (a : SzB m j) (h : i.natAbs ≤ j.natAbs) : SzB m i := ⟨Nat.lt_of_le_of_lt h a.h⟩
instance SzB.mul {i j : Int} {m n : Nat} [a : SzB m i] [b : SzB n j] : SzB (m + n) (i * j) := ⟨by
  rw [Int.natAbs_mul, Nat.pow_add]
  exact Nat.mul_lt_mul'' a.h b.h⟩
theorem pow_max {x y m n : Nat} (h : x < 2 ^ m) (h' : y < 2 ^ n) : x + y < 2 ^ (max m n + 1) := by
  have h1 := Nat.pow_le_pow_right (show 0 < 2 by decide) (Nat.le_max_left m n)
  have h2 := Nat.pow_le_pow_right (show 0 < 2 by decide) (Nat.le_max_right m n)
  rw [Nat.pow_succ]
  omega
instance SzB.add {i j : Int} {m n : Nat} [a : SzB m i] [b : SzB n j] : SzB (max m n + 1) (i + j) := ⟨Nat.lt_of_le_of_lt (Int.natAbs_add_le i j) (pow_max a.h b.h)⟩
instance SzB.sub {i j : Int} {m n : Nat} [a : SzB m i] [b : SzB n j] : SzB (max m n + 1) (i - j) := ⟨Nat.lt_of_le_of_lt (by omega) (pow_max a.h b.h)⟩
instance SzB.neg {i : Int} {m : Nat} [a : SzB m i] : SzB m (-i) := ⟨by rw [Int.natAbs_neg]; exact a.h⟩
instance SzB.div {i j : Int} {m : Nat} [a : SzB m i] : SzB (m + 1) (i / j) := ⟨by
  have h := a.h
  have e : (i / j).natAbs ≤ i.natAbs + 1 := by
    have := Int.natAbs_ediv_le_natAbs i j
    omega
  rw [Nat.pow_succ]
  have : 0 < 2 ^ m := Nat.pow_pos (by decide)
  omega⟩
instance SzB.mod {i j : Int} {m n : Nat} [a : SzB m i] [b : SzB n j] : SzB (max m n + 1) (i % j) := ⟨by
  refine Nat.lt_of_le_of_lt ?_ (pow_max a.h b.h)
  by_cases c : j = 0
  · subst c
    rw [Int.emod_zero]
    omega
  · have h1 := Int.emod_nonneg i c
    have h2 := Int.emod_lt i c
    omega⟩
instance SzB.lit {k : Nat} : SzB (Nat.log2 k + 1) (no_index (OfNat.ofNat k) : Int) := ⟨by
  show (k : Int).natAbs < 2 ^ (Nat.log2 k + 1)
  rw [Int.natAbs_natCast]
  exact Nat.lt_log2_self⟩
instance SzB.pow {i : Int} {m k : Nat} [a : SzB m i] : SzB (m * k + 1) (i ^ k) := ⟨by
  rw [Int.natAbs_pow, Nat.pow_succ, Nat.pow_mul]
  have h1 : i.natAbs ^ k ≤ (2 ^ m) ^ k := Nat.pow_le_pow_left (Nat.le_of_lt a.h) k
  have h2 : 0 < (2 ^ m) ^ k := Nat.pow_pos (Nat.pow_pos (by decide))
  omega⟩
instance SzB.ite {p : Prop} [Decidable p] {i j : Int} {m n : Nat} [a : SzB m i] [b : SzB n j] : SzB (max m n) (if p then i else j) := ⟨by
  split
  · exact Nat.lt_of_lt_of_le a.h (Nat.pow_le_pow_right (by decide) (Nat.le_max_left m n))
  · exact Nat.lt_of_lt_of_le b.h (Nat.pow_le_pow_right (by decide) (Nat.le_max_right m n))⟩
end Px
set_option Elab.async false
set_option linter.all false
set_option maxRecDepth 100000
namespace Px
open PySem PySem.Spec PyProof.Rows L2
def Szb (i : Int) : Prop := -(10 ^ 60) ≤ i ∧ i ≤ 10 ^ 60
structure Shw (n w : Nat) (d : D) : Prop where
  ok : okD n d = true
  sh : PyData.showable (toPy d) = true
  lv : PyData.leavesShort 70 (toPy d) = true
  wt : PyData.weight (toPy d) ≤ w
structure ShwL (n w : Nat) (l : List D) : Prop where
  ok : l.all (okD n) = true
  sh : PyData.showableAll (toPyL l) = true
  lv : PyData.leavesShortAll 70 (toPyL l) = true
  wt : PyData.weightAll (toPyL l) ≤ w
theorem Shw.int {n : Nat} {i : Int} (h : Szb i) : Shw n 211 (.int i) := by
  have a : i.natAbs < 10 ^ 61 := by have := h.1; have := h.2; omega
  have a2 : i.natAbs < 2 ^ 210 := Nat.lt_of_le_of_lt (show i.natAbs ≤ 10 ^ 60 by have := h.1; have := h.2; omega) (by decide)
  refine ⟨by cases n <;> rfl, ?_, ?_, ?_⟩
  · show PyData.showable (.int i) = true
    simp only [PyData.showable]
    exact decide_eq_true (PySem.Flt.log2_lt_of (by decide) (Nat.lt_of_lt_of_le a2 (Nat.pow_le_pow_right (by decide) (by decide))))
  · have := int_text_length_le10 (a := i) (k := 61) (by decide) a
    show decide _ = true
    refine decide_eq_true ?_
    simp only [PyData.shown]
    rw [PySem.ofString_length]
    omega
  · have := PySem.Flt.log2_lt_of (by decide) a2
    show PyData.weight (.int i) ≤ 211
    simp only [PyData.weight]
    split <;> omega
theorem Shw.bl {n : Nat} {b : Bool} : Shw n 0 (.bl b) := ⟨by cases n <;> rfl, rfl, rfl, by show PyData.weight (.bool b) ≤ 0; simp [PyData.weight]⟩
theorem Shw.non {n : Nat} : Shw n 0 .non := ⟨by cases n <;> rfl, rfl, rfl, by show PyData.weight .none ≤ 0; simp [PyData.weight]⟩
theorem Shw.str {n w : Nat} {s : Str} (h1 : PyData.strOk s = true := by decide +kernel) (h2 : PyData.leavesShort 70 (.str s) = true := by decide +kernel) (h3 : PyData.weight (.str s) ≤ w := by decide +kernel) : Shw n w (.str s) := ⟨by cases n <;> exact h1, rfl, h2, h3⟩
theorem ShwL.nil {n : Nat} : ShwL n 0 [] := ⟨rfl, rfl, rfl, by simp [toPyL, PyData.weightAll]⟩
theorem ShwL.cons {n a b : Nat} {d : D} {l : List D} (h : Shw n a d) (k : ShwL n b l) : ShwL n (a + 1 + b) (d :: l) := by
  refine ⟨by rw [List.all_cons, h.ok, k.ok]; rfl, ?_, ?_, ?_⟩
  · show (PyData.showable (toPy d) && PyData.showableAll (toPyL l)) = true
    rw [h.sh, k.sh]; rfl
  · show (PyData.leavesShort 70 (toPy d) && PyData.leavesShortAll 70 (toPyL l)) = true
    rw [h.lv, k.lv]; rfl
  · show PyData.weight (toPy d) + 1 + PyData.weightAll (toPyL l) ≤ _
    have := h.wt; have := k.wt; omega
theorem ShwL.all {n w : Nat} : ∀ {l : List D}, (∀ d ∈ l, Shw n w d) → ShwL n ((w + 1) * l.length) l
  | [], _ => .nil
  | d :: r, h => by
    have := ShwL.cons (h d List.mem_cons_self) (ShwL.all fun x q => h x (List.mem_cons_of_mem _ q))
    have e : (w + 1) * (d :: r).length = w + 1 + (w + 1) * r.length := by rw [List.length_cons, Nat.mul_succ]; omega
    rw [e]; exact this
theorem Shw.tup {n w : Nat} {l : List D} (h : ShwL n w l) : Shw (n + 1) w (.tup l) := ⟨h.ok, h.sh, h.lv, h.wt⟩
theorem Shw.lst {n w : Nat} {l : List D} (h : ShwL n w l) : Shw (n + 1) w (.lst l) := ⟨h.ok, h.sh, h.lv, h.wt⟩
theorem Shw.show {n w : Nat} {d : D} (h : Shw n w d) (hw : w ≤ 200000) : showOk (toPy d) := by
  refine ⟨h.sh, ?_⟩
  have h1 := PyData.shown_le 70 (by decide) _ h.lv
  have h2 := Nat.mul_le_mul_left (70 + 2) (Nat.le_trans h.wt hw)
  omega
theorem Shw.ints {n : Nat} {ns : List Int} (h : ∀ i ∈ ns, Szb i) : ShwL n (212 * ns.length) (ns.map .int) := by
  have := ShwL.all (n := n) (w := 211) (l := ns.map .int) fun d hd => by
    obtain ⟨i, hi, rfl⟩ := List.mem_map.mp hd
    exact .int (h i hi)
  rw [List.length_map] at this
  exact this
end Px
set_option Elab.async false
set_option linter.all false
set_option maxRecDepth 100000
namespace Px
open PySem PySem.Spec PyProof.Rows L2
mutual
theorem hash_nt (w w' : World) : ∀ k : NestedKey, ntK k = true → k.hash w = k.hash w'
  | .none, _ => rfl
  | .num _, _ => rfl
  | .text _, h => by cases h
  | .tup ks, h => by
    have e := hashes_nt w w' ks h
    show reduceHash (Builtin.Tuple.tupleHashOf (NestedKey.hashes w ks)) = reduceHash (Builtin.Tuple.tupleHashOf (NestedKey.hashes w' ks))
    rw [e]
theorem hashes_nt (w w' : World) : ∀ ks : List NestedKey, ntKL ks = true → NestedKey.hashes w ks = NestedKey.hashes w' ks
  | [], _ => rfl
  | k :: r, h => by
    have h : (ntK k && ntKL r) = true := h
    rw [Bool.and_eq_true] at h
    show k.hash w :: NestedKey.hashes w r = k.hash w' :: NestedKey.hashes w' r
    rw [hash_nt w w' k h.1, hashes_nt w w' r h.2]
end
mutual
theorem nt_nk : ∀ (d : D) (k : NestedKey), nkOf d = some k → ntK k = true
  | .non, _, h => by cases h; rfl
  | .bl _, _, h => by cases h; rfl
  | .int _, _, h => by cases h; rfl
  | .tup l, k, h => by
    have h : (nkOfL l).map NestedKey.tup = some k := h
    cases e : nkOfL l with
    | none => rw [e] at h; cases h
    | some ks => rw [e] at h; cases h; exact nt_nkL l ks e
  | .str _, _, h => by cases h
  | .lst _, _, h => by cases h
  | .dic _ _, _, h => by cases h
  | .obj _ _ _, _, h => by cases h
  | .raw _, _, h => by cases h
  | .scr _, _, h => by cases h
  | .clo _ _ _ _ _, _, h => by cases h
  | .fnc _ _ _ _, _, h => by cases h
  | .exv _ _ _ _ _, _, h => by cases h
theorem nt_nkL : ∀ (l : List D) (ks : List NestedKey), nkOfL l = some ks → ntKL ks = true
  | [], _, h => by cases h; rfl
  | d :: r, ks, h => by
    have h : (match nkOf d, nkOfL r with | some a, some b => some (a :: b) | _, _ => none) = some ks := h
    cases e1 : nkOf d with
    | none => rw [e1] at h; cases h
    | some a =>
      cases e2 : nkOfL r with
      | none => rw [e1, e2] at h; cases h
      | some b =>
        rw [e1, e2] at h
        cases h
        show (ntK a && ntKL b) = true
        rw [nt_nk d a e1, nt_nkL r b e2]; rfl
end
section
variable {X : Cx} {pins : List (Addr × Obj)} {σ : L2.St} {H F : Hp} {s : Shared}
mutual
theorem nested_is (I : Inv X pins σ H s) (sm : Same F H) : ∀ (d : D) (k : NestedKey) (v : V) (u : Value), nkOf d = some k → Rp X.K F d v → RelV v u → NestedIs s.heap k u
  | .non, k, v, u, h, r, rv => by
    cases h
    cases (show v = .non from r)
    cases (show u = .none from rv)
    exact .none
  | .bl b, k, v, u, h, r, rv => by
    cases h
    cases (show v = .bl b from r)
    cases (show u = .bool b from rv)
    exact .bool rfl
  | .int i, k, v, u, h, r, rv => by
    cases h
    cases (show v = .int i from r)
    obtain ⟨t, rfl⟩ := (show ∃ t, u = .int i t from rv)
    exact .int i t
  | .tup l, k, v, u, h, r, rv => by
    have h : (nkOfL l).map NestedKey.tup = some k := h
    cases e : nkOfL l with
    | none => rw [e] at h; cases h
    | some ks =>
      rw [e] at h
      cases h
      obtain ⟨a, xs, rfl, hs, rl⟩ := r
      cases (show u = .ref a from rv)
      obtain ⟨its, rvs, ⟨o, h1, h2, n, h3⟩, _⟩ := I.tuple (same_t sm hs)
      refine .tup h1 h2 h3 ?_
      exact nested_all I sm l ks xs its e rl rvs
  | .str _, _, _, _, h, _, _ => by cases h
  | .lst _, _, _, _, h, _, _ => by cases h
  | .dic _ _, _, _, _, h, _, _ => by cases h
  | .obj _ _ _, _, _, _, h, _, _ => by cases h
  | .raw _, _, _, _, h, _, _ => by cases h
  | .scr _, _, _, _, h, _, _ => by cases h
  | .clo _ _ _ _ _, _, _, _, h, _, _ => by cases h
  | .fnc _ _ _ _, _, _, _, h, _, _ => by cases h
  | .exv _ _ _ _ _, _, _, _, h, _, _ => by cases h
theorem nested_all (I : Inv X pins σ H s) (sm : Same F H) : ∀ (l : List D) (ks : List NestedKey) (xs : List V) (us : List Value), nkOfL l = some ks → RpL X.K F l xs → Vals xs us → NestedAll s.heap ks us
  | [], _, xs, us, h, r, rv => by
    cases h
    cases (show xs = [] from r)
    cases rv
    exact .nil
  | d :: l, ks, xs, us, h, r, rv => by
    have h : (match nkOf d, nkOfL l with | some a, some b => some (a :: b) | _, _ => none) = some ks := h
    obtain ⟨x, r', rfl, r1, r2⟩ := r
    cases rv with
    | cons q1 q2 =>
      cases e1 : nkOf d with
      | none => rw [e1] at h; cases h
      | some a =>
        cases e2 : nkOfL l with
        | none => rw [e1, e2] at h; cases h
        | some b =>
          rw [e1, e2] at h
          cases h
          exact .cons (nested_is I sm d a x _ e1 r1 q1) (nested_all I sm l b _ _ e2 r2 q2)
end
end
def sameK (k : NestedKey) (p : D × D) : Bool := decide (nkOf p.1 = some k)
def hasK (kvs : List (D × D)) (k : NestedKey) : Bool := kvs.any (sameK k)
def lookK (kvs : List (D × D)) (k : NestedKey) : Option D := (kvs.find? (sameK k)).map (·.2)
def putD (kvs : List (D × D)) (d v : D) (k : NestedKey) : List (D × D) := if hasK kvs k = true then kvs.map fun p => if sameK k p = true then (p.1, v) else p else kvs ++ [(d, v)]
section
variable {K : PySem.W.Frag} {F : Hp}
end
def asDct (d : D) (M : Mm) (f : Addr → List (D × D) → Prop) : Prop := match d with
  | .raw (.ref a) => match M a with | some (.dct kvs) => f a kvs | _ => False
  | _ => False
def asKey (d : D) (f : NestedKey → Prop) : Prop := match d with
  | .tup l => match nkOf (.tup l) with | some k => k.depth ≤ 8 ∧ f k | none => False
  | _ => False
section
variable {K : PySem.W.Frag} {g : Gh} {σ : L2.St} {H : Hp} {ρ : Rho} {M : Mm} {F : Hp} {O : Own} {p : Addr} {o : HO} {mo mo' : Mo}
theorem Ab.newMo (A : Ab K g σ H ρ M F O) (h : H p = none) (hm : MoOk K F (upd H p o) (fun b => if b = p then some (.obj p) else O b) p mo) : Ab K g σ (upd H p o) ρ (updM M p mo) F (fun b => if b = p then some (.obj p) else O b) := by
  have A1 := A.laid (o := o) h
  have hO := A.o0 h
  have keep : ∀ b u, O b = some u → (if b = p then some (Ow.obj p) else O b) = some u := fun b u e => by rw [if_neg (fun z => by rw [z, hO] at e; cases e)]; exact e
  exact { sub := A1.sub, ext0 := A1.ext0, new := A1.new, frm := A1.frm, thr := A1.thr
          liv := fun b u e => by
            by_cases z : b = p
            · subst z; exact ⟨⟨_, upd_same⟩, A.f0 h, .inr (A.g0 h)⟩
            · rw [if_neg z] at e; exact A1.liv b u e
          slo := fun b u e n => by
            by_cases z : b = p
            · rw [if_pos z] at e; exact absurd (Option.some.inj e).symm (n p)
            · rw [if_neg z] at e; exact A1.slo b u e n
          tm := fun q l e => by
            obtain ⟨xs, e1, e2, e3⟩ := A1.tm q l e
            exact ⟨xs, e1, e2, keep q _ e3⟩
          mu := fun b m e => by
            by_cases z : b = p
            · subst z
              have e' : m = mo := (Option.some.inj ((if_pos rfl).symm.trans (show (if b = b then some mo else M b) = some m from e))).symm
              subst e'
              exact hm
            · have e' : M b = some m := by
                have := e
                unfold updM at this
                rw [if_neg z] at this
                exact this
              exact (A1.mu b m e').mono (Same.refl F) fun q u e1 e2 => ⟨e1, keep q _ e2⟩
          len := A1.len
          sl := fun j sv e => by
            obtain ⟨v, e1, r⟩ := A1.sl j sv e
            exact ⟨v, e1, r.mono (Same.refl F) fun q xs e1 e2 => ⟨e1, keep q _ e2⟩⟩ }
theorem Ab.setMo (A : Ab K g σ H ρ M F O) (hM : M p = some mo) (hO : O p = some (.obj p)) (hm : MoOk K F (upd H p o) O p mo') : Ab K g σ (upd H p o) ρ (updM M p mo') F O := by
  obtain ⟨⟨x, hx⟩, hF, hg⟩ := A.liv p _ hO
  have ne : ∀ b u, O b = some u → u ≠ .obj p → b ≠ p := fun b u e n z => by rw [z, hO] at e; exact n (Option.some.inj e).symm
  exact { sub := fun b u e => by rw [upd_ne (fun z => by rw [z, hF] at e; cases e)]; exact A.sub b u e
          ext0 := A.ext0, new := A.new
          frm := fun b u e n => by
            rw [upd_ne]
            · exact A.frm b u e n
            · intro z
              subst z
              rcases hg with y | y
              · exact n y
              · rw [e] at y; cases y
          thr := fun b u e => by
            by_cases z : b = p
            · subst z; exact ⟨_, upd_same⟩
            · rw [upd_ne z]; exact A.thr b u e
          liv := fun b u e => by
            obtain ⟨r1, r2⟩ := A.liv b u e
            refine ⟨?_, r2⟩
            by_cases z : b = p
            · subst z; exact ⟨_, upd_same⟩
            · rw [upd_ne z]; exact r1
          slo := A.slo
          tm := fun q l e => by
            obtain ⟨xs, e1, e2, e3⟩ := A.tm q l e
            exact ⟨xs, by rw [upd_ne (ne q _ e3 (fun z => by cases z))]; exact e1, e2, e3⟩
          mu := fun b m e => by
            by_cases z : b = p
            · subst z
              have e' : m = mo' := (Option.some.inj ((if_pos rfl).symm.trans (show (if b = b then some mo' else M b) = some m from e))).symm
              subst e'
              exact hm
            · have e' : M b = some m := by
                have := e
                unfold updM at this
                rw [if_neg z] at this
                exact this
              exact (A.mu b m e').mono (Same.refl F) fun q u e1 e2 => ⟨by rw [upd_ne (ne q _ e2 (fun y => z (by cases y; rfl)))]; exact e1, e2⟩
          len := A.len
          sl := fun j sv e => by
            obtain ⟨v, e1, r⟩ := A.sl j sv e
            exact ⟨v, e1, r.mono (Same.refl F) fun q xs e1 e2 => ⟨by rw [upd_ne (ne q _ e2 (fun z => by cases z))]; exact e1, e2⟩⟩ }
end
section
variable {X : Cx} {W : WX} {a b e : Expr} {pa pb pe : PTE} {pos : Pos}
def dNewN : PTE := fun _ _ M q => ∀ a, M a = none → q (.raw (.ref a)) (updM M a (.dct []))
def dInN (neg : Bool) (pa pb : PTE) : PTE := fun w ρ M q => pa w ρ M fun x M1 => pb w ρ M1 fun y M2 => asDct y M2 fun _ kvs => asKey x fun k => q (.bl (if neg then !hasK kvs k else hasK kvs k)) M2
theorem Vw.tupR {K : PySem.W.Frag} {σ : L2.St} {ρ : Rho} {F : Hp} {l : List D} {v : V} (h : Vw K σ ρ F (.tup l) v) : Rp K F (.tup l) v := by
  rcases h with h | ⟨_, _, _, _, _, _, h⟩
  · exact h
  · cases h
def dGetN (pb pa : PTE) : PTE := fun w ρ M q => pb w ρ M fun y M1 => pa w ρ M1 fun x M2 => asDct y M2 fun _ kvs => asKey x fun k => ∃ z, lookK kvs k = some z ∧ q z M2
def dPutN (pv pb pa : PTE) : PTS := fun w P ρ M => pv w ρ M fun v M1 => pb w ρ M1 fun y M2 => pa w ρ M2 fun x M3 => asDct y M3 fun c kvs => asKey x fun k => kvs.length < 1000000 ∧ P.nx ρ (updM M3 c (.dct (putD kvs x v k)))
end
theorem hu9 {A : Around} {k : Nat} (hr : Room k A) : A.units + 9 < cLine := by have := hr.units; omega
end Px
set_option Elab.async false
set_option linter.all false
set_option maxRecDepth 100000
namespace Px
open PySem PySem.Spec PyProof.Rows L2
abbrev PSpL := List D → Mm → (List D → Mm → Prop) → PX → Prop
theorem objs_none {O : Own} {a : Addr} (h : O a = none) : objs O a = none := by
  unfold objs
  rw [h]
section
variable {P : Program} {w : World} {K : PySem.W.Frag} {mg : Str → Option Value} {base : Heap} {k : Nat} {f : Addr} {fd : FuncData} {ps N : List Str}
end
section
variable {X : Cx} {W : WX} {k n : Nat} {f : Addr} {fd : FuncData} {ps ks : List Str} {sp : PSpL} {x : Str} {p pos : Pos} {e : Expr} {es : List Expr} {pl : PTA} {ds : List Value} {dd : List D} {dvs : List V} {kws : List Keyword} {ix : List Nat} {i : Nat}
def dCallL (sp : PSpL) (pl : PTA) : PTA := fun w ρ M q => pl w ρ M fun ds M1 => sp ds M1 q fun cls fs M2 => w cls fs ρ M2
def dCallLK (sp : PSpL) (ix : List Nat) (pl : PTA) : PTA := fun w ρ M q => pl w ρ M fun ds M1 => sp (pick ix ds) M1 q fun cls fs M2 => w cls fs ρ M2
def dRetL (pl : PTA) : PTS := fun w P ρ M => pl w ρ M P.rl
def dRetOwn (i : Nat) : PTS := fun _ P ρ M => match gt ρ i with | some (.own l) => P.rl l M | _ => False
theorem Ab.drop {K : PySem.W.Frag} {g : Gh} {σ : L2.St} {H : Hp} {ρ : Rho} {M : Mm} {F : Hp} {O : Own} {ds : List D} (A : Ab K g σ H ρ M F O) (hi : gt ρ i = some (.own ds)) :
    ∃ l xs O', σ[i]? = some (some (.ref l)) ∧ H l = some (.lst xs) ∧ RpL K F ds xs ∧ F l = none ∧ O' l = none ∧ g.H0 l = none ∧ Ab K g σ H (un ρ i) M F O' := by
  obtain ⟨v, e1, l, xs, rfl, e3, e4, e5⟩ := A.sl i _ hi
  obtain ⟨_, hFl, _⟩ := A.liv l _ e5
  have h0l : g.H0 l = none := A.slo l _ e5 (fun _ z => by cases z)
  refine ⟨l, xs, fun b => if b = l then none else O b, e1, e3, e4, hFl, if_pos rfl, h0l, ?_⟩
  have keep : ∀ b u, O b = some u → u ≠ .slot i → (if b = l then none else O b) = some u := fun b u e n => by
    rw [if_neg]
    · exact e
    · intro z
      rw [z, e5] at e; exact n (Option.some.inj e).symm
  exact { sub := A.sub, ext0 := A.ext0, new := A.new, frm := A.frm, thr := A.thr
          liv := fun b u e => by
            by_cases z : b = l
            · rw [if_pos z] at e; cases e
            · rw [if_neg z] at e; exact A.liv b u e
          slo := fun b u e n => by
            by_cases z : b = l
            · rw [if_pos z] at e; cases e
            · rw [if_neg z] at e; exact A.slo b u e n
          tm := fun q l2 e => by
            obtain ⟨ys, e1, e2, e3⟩ := A.tm q l2 e
            exact ⟨ys, e1, e2, keep q _ e3 (fun z => by cases z)⟩
          mu := fun b m e => (A.mu b m e).mono (Same.refl F) fun q u e1 e2 => ⟨e1, keep q _ e2 (fun z => by cases z)⟩
          len := by rw [un_len]; exact A.len
          sl := fun j sv e => by
            by_cases z : j = i
            · subst z; rw [gt_un_self] at e; cases e
            · rw [gt_un_ne z] at e
              obtain ⟨v, e1, r⟩ := A.sl j sv e
              exact ⟨v, e1, r.mono (Same.refl F) fun q xs e1 e2 => ⟨e1, keep q _ e2 (fun y => z (by cases y; rfl))⟩⟩ }
end
end Px
set_option Elab.async false
set_option linter.all false
set_option maxRecDepth 100000
namespace Px
open PySem PySem.Spec PyProof.Rows L2
theorem gcd_pos' {a b : Int} (h : 0 < b) : 0 < (Int.gcd a b : Int) := by
  have := Int.gcd_pos_iff (a := a) (b := b) |>.mpr (.inr (by omega))
  omega
def lc (a b : Int) : Int := a / g0 a b * b
theorem lc_l {a b : Int} : a ∣ lc a b := by
  unfold lc g0
  obtain ⟨b', eb⟩ := Int.gcd_dvd_right (a := a) (b := b)
  by_cases hz : (Int.gcd a b : Int) = 0
  · rw [hz] at eb
    rw [eb]; simp
  · have e : a / (Int.gcd a b : Int) * b = a * b' := by
      have e2 := Int.ediv_mul_cancel (Int.gcd_dvd_left (a := a) (b := b))
      generalize (Int.gcd a b : Int) = g at *
      rw [eb, ← Int.mul_assoc, e2]
    rw [e]
    exact Int.dvd_mul_right ..
theorem lc_r {a b : Int} : b ∣ lc a b := Int.dvd_mul_left ..
theorem lc_pos {a b : Int} (ha : 0 < a) (hb : 0 < b) : 0 < lc a b := by
  unfold lc g0
  refine Int.mul_pos ?_ hb
  have gp := gcd_pos' (a := a) hb
  have e := Int.ediv_mul_cancel (Int.gcd_dvd_left (a := a) (b := b))
  by_cases c : 0 < a / (Int.gcd a b : Int)
  · exact c
  · have : a / (Int.gcd a b : Int) * (Int.gcd a b : Int) ≤ 0 := Int.mul_nonpos_of_nonpos_of_nonneg (by omega) (by omega)
    omega
theorem lc_dvd {a b m : Int} (ha : 0 < a) (hb : 0 < b) (h1 : a ∣ m) (h2 : b ∣ m) : lc a b ∣ m := by
  have gp := gcd_pos' (a := a) hb
  have e := Int.ediv_mul_cancel (Int.gcd_dvd_left (a := a) (b := b))
  have e2 := Int.ediv_mul_cancel (Int.gcd_dvd_right (a := a) (b := b))
  have hl : lc a b = (Int.lcm a b : Int) := by
    have h := Int.gcd_mul_lcm a b
    have h' : (Int.gcd a b : Int) * (Int.lcm a b : Int) = a * b := by
      have hh : ((Int.gcd a b * Int.lcm a b : Nat) : Int) = ((a * b).natAbs : Int) := by rw [h, Int.natAbs_mul]
      rw [Int.natCast_mul] at hh
      rw [hh]
      have := Int.mul_pos ha hb
      omega
    refine Int.eq_of_mul_eq_mul_left (show (Int.gcd a b : Int) ≠ 0 by omega) ?_
    rw [h']
    unfold lc g0
    rw [← Int.mul_assoc, Int.mul_comm (Int.gcd a b : Int), e]
  rw [hl]
  have h3 : m.natAbs = m.natAbs := rfl
  have : Int.lcm a b ∣ m.natAbs := Nat.lcm_dvd (Int.natAbs_dvd_natAbs.mpr h1) (Int.natAbs_dvd_natAbs.mpr h2)
  exact Int.ofNat_dvd_left.mpr this
def lcmL (ns : List Int) : Int := ns.foldl lc 1
abbrev PosL (ns : List Int) : Prop := ∀ n ∈ ns, (0 : Int) < n
theorem fold_lc : ∀ (ns : List Int) (a : Int), 0 < a → PosL ns → 0 < ns.foldl lc a ∧ ∀ m, ns.foldl lc a ∣ m ↔ a ∣ m ∧ ∀ n ∈ ns, n ∣ m
  | [], a, h, _ => ⟨h, fun m => ⟨fun z => ⟨z, fun _ q => nomatch q⟩, fun z => z.1⟩⟩
  | n :: r, a, h, hp => by
    have hn : 0 < n := hp n List.mem_cons_self
    obtain ⟨h1, h2⟩ := fold_lc r (lc a n) (lc_pos h hn) fun m q => hp m (List.mem_cons_of_mem _ q)
    refine ⟨h1, fun m => ?_⟩
    rw [List.foldl_cons, h2]
    constructor
    · rintro ⟨z, q⟩
      refine ⟨Int.dvd_trans lc_l z, fun x hx => ?_⟩
      rcases List.mem_cons.mp hx with rfl | hx
      · exact Int.dvd_trans lc_r z
      · exact q x hx
    · rintro ⟨z, q⟩
      exact ⟨lc_dvd h hn z (q n List.mem_cons_self), fun x hx => q x (List.mem_cons_of_mem _ hx)⟩
theorem lcmL_pos {ns : List Int} (h : PosL ns) : 0 < lcmL ns := (fold_lc ns 1 (by decide) h).1
theorem lcmL_dvd {ns : List Int} (h : PosL ns) {m : Int} : lcmL ns ∣ m ↔ ∀ n ∈ ns, n ∣ m := by
  have := (fold_lc ns 1 (by decide) h).2 m
  unfold lcmL
  rw [this]
  exact ⟨fun z => z.2, fun z => ⟨Int.one_dvd m, z⟩⟩
theorem lcmL_self {ns : List Int} (h : PosL ns) {n : Int} (hn : n ∈ ns) : n ∣ lcmL ns := (lcmL_dvd h).mp (Int.dvd_refl _) n hn
theorem lcmL_le {ns ms : List Int} (h : PosL ns) (h' : PosL ms) (s : ∀ n ∈ ns, n ∈ ms) : lcmL ns ≤ lcmL ms :=
  Int.le_of_dvd (lcmL_pos h') ((lcmL_dvd h).mpr fun n q => lcmL_self h' (s n q))
theorem lcmL_bound : ∀ {ns : List Int} {k : Nat}, (∀ n ∈ ns, (1 : Int) ≤ n ∧ n ≤ 1000) → ns.length ≤ k → lcmL ns ≤ 1000 ^ k := by
  have key : ∀ (ns : List Int) (a : Int) (j : Nat), 0 < a → a ≤ 1000 ^ j → (∀ n ∈ ns, (1 : Int) ≤ n ∧ n ≤ 1000) → ns.foldl lc a ≤ 1000 ^ (j + ns.length) := by
    intro ns
    induction ns with
    | nil => intro a j _ h _; exact h
    | cons n r ih =>
      intro a j h0 h hp
      obtain ⟨h1, h2⟩ := hp n List.mem_cons_self
      have e : lc a n ≤ 1000 ^ (j + 1) := by
        refine Int.le_trans (Int.le_of_dvd (Int.mul_pos h0 (by omega)) (lc_dvd h0 (by omega) (Int.dvd_mul_right ..) (Int.dvd_mul_left ..))) ?_
        rw [Int.pow_succ]
        exact Int.mul_le_mul h h2 (by omega) (Int.pow_nonneg (by decide))
      have := ih (lc a n) (j + 1) (lc_pos h0 (by omega)) e fun m q => hp m (List.mem_cons_of_mem _ q)
      rw [List.foldl_cons, List.length_cons, show j + (r.length + 1) = j + 1 + r.length by omega]
      exact this
  intro ns k h hk
  have h1 := key ns 1 0 (by decide) (by decide) h
  rw [Nat.zero_add] at h1
  refine Int.le_trans h1 ?_
  have : ∀ d a : Nat, (1000 : Int) ^ a ≤ 1000 ^ (a + d) := by
    intro d
    induction d with
    | zero => intro a; exact Int.le_refl _
    | succ d ih =>
      intro a
      refine Int.le_trans (ih a) ?_
      rw [← Nat.add_assoc, Int.pow_succ]
      have : (0 : Int) ≤ 1000 ^ (a + d) := Int.pow_nonneg (by decide)
      omega
  have := this (k - ns.length) ns.length
  rw [show ns.length + (k - ns.length) = k by omega] at this
  exact this
def sel : List Bool → List Int → List Int
  | b :: m, h :: r => if b then h :: sel m r else sel m r
  | _, _ => []
def nots (m : List Bool) : List Bool := m.map (!·)
theorem sel_sub : ∀ {m : List Bool} {hs : List Int} {h : Int}, h ∈ sel m hs → h ∈ hs
  | [], _, _, q => by simp [sel] at q
  | _ :: _, [], _, q => by simp [sel] at q
  | b :: m, x :: r, h, q => by
    unfold sel at q
    cases b with
    | true =>
      rcases List.mem_cons.mp q with rfl | q
      · exact List.mem_cons_self
      · exact List.mem_cons_of_mem _ (sel_sub q)
    | false => exact List.mem_cons_of_mem _ (sel_sub q)
theorem sel_pos {m : List Bool} {hs : List Int} (h : PosL hs) : PosL (sel m hs) := fun n q => h n (sel_sub q)
theorem sel_len : ∀ {m : List Bool} {hs : List Int}, (sel m hs).length ≤ hs.length
  | [], _ => by simp [sel]
  | _ :: _, [] => by simp [sel]
  | b :: m, x :: r => by
    have := sel_len (m := m) (hs := r)
    unfold sel
    split <;> simp <;> omega
def Spl (hs : List Int) (a b : Int) : Prop := ∃ m : List Bool, m.length = hs.length ∧ sel m hs ≠ [] ∧ sel (nots m) hs ≠ [] ∧ a = lcmL (sel m hs) ∧ b = lcmL (sel (nots m) hs)
theorem Spl.pos {hs : List Int} (hp : PosL hs) {a b : Int} (h : Spl hs a b) : 0 < a ∧ 0 < b := by
  obtain ⟨m, h1, h2, h3, h4, h5⟩ := h
  rw [h4, h5]
  exact ⟨lcmL_pos (sel_pos hp), lcmL_pos (sel_pos hp)⟩
theorem Spl.le {hs : List Int} (hp : PosL hs) {a b : Int} (h : Spl hs a b) : a ≤ lcmL hs ∧ b ≤ lcmL hs := by
  obtain ⟨m, h1, h2, h3, h4, h5⟩ := h
  rw [h4, h5]
  exact ⟨lcmL_le (sel_pos hp) hp fun _ => sel_sub, lcmL_le (sel_pos hp) hp fun _ => sel_sub⟩
def isSeq (d : D) (ns : List Int) : Prop := d = .lst (ns.map .int) ∨ d = .tup (ns.map .int)
def HsOk (hs : List Int) : Prop := hs ≠ [] ∧ hs.length ≤ 6 ∧ ∀ n ∈ hs, (1 : Int) ≤ n ∧ n ≤ 1000
def SmOk (hs : List Int) : Prop := hs.length ≤ 6 ∧ ∀ n ∈ hs, (1 : Int) ≤ n ∧ n ≤ 1000
theorem HsOk.sm {hs : List Int} (h : HsOk hs) : SmOk hs := h.2
theorem SmOk.pos {hs : List Int} (h : SmOk hs) : PosL hs := fun n q => by have := h.2 n q; omega
theorem SmOk.sel {hs : List Int} (h : SmOk hs) (m : List Bool) : SmOk (sel m hs) := ⟨Nat.le_trans sel_len h.1, fun n q => h.2 n (sel_sub q)⟩
theorem SmOk.lcm {hs : List Int} (h : SmOk hs) : 0 < lcmL hs ∧ lcmL hs ≤ 10 ^ 18 := ⟨lcmL_pos h.pos, Int.le_trans (lcmL_bound h.2 h.1) (by decide)⟩
theorem iA_seq {d : D} {ns : List Int} {w : PWi} {ρ : Rho} {M : Mm} {pe : PTE} {q : List D → Mm → Prop} (hd : isSeq d ns) (he : ∀ q' : PQ, q' d M → pe w ρ M q') (h : q (ns.map .int) M) : iA pe w ρ M q := by
  refine he _ ?_
  rcases hd with rfl | rfl <;> exact h
theorem lc_step {ns rs : List Int} {a n : Int} (hn : SmOk ns) (ha : 0 < a) (hl : lcmL ns = (n :: rs).foldl lc a) (hp : ∀ x ∈ n :: rs, (1 : Int) ≤ x ∧ x ≤ 1000) :
    a ≤ 10 ^ 18 ∧ 0 < lc a n ∧ lcmL ns = rs.foldl lc (lc a n) := by
  have pp : PosL (n :: rs) := fun x q => by have := hp x q; omega
  have hd := ((fold_lc (n :: rs) a ha pp).2 (lcmL ns)).mp (hl ▸ Int.dvd_refl _)
  have hb := hn.lcm
  have := Int.le_of_dvd hb.1 hd.1
  exact ⟨by omega, lc_pos ha (pp n List.mem_cons_self), hl⟩
end Px
set_option Elab.async false
set_option linter.all false
set_option maxRecDepth 100000
namespace Px
open PySem PySem.Spec PyProof.Rows L2
def NmOk (i : Int) : Prop := -(10 ^ 40) ≤ i ∧ i ≤ 10 ^ 40
theorem NmOk.sz {i : Int} (h : NmOk i) : SzB 140 i := SzB.of (by have := h.1; omega) (by have := h.2; omega)
theorem btw_of {n lo hi : Int} (h : lo ≤ n) (h2 : n ≤ hi) : btwD (.int n) lo hi = true := by
  show (decide (lo ≤ n) && decide (n ≤ hi)) = true
  rw [decide_eq_true h, decide_eq_true h2]; rfl
end Px
set_option Elab.async false
set_option linter.all false
set_option maxRecDepth 100000
namespace Px
open PySem PySem.Spec PyProof.Rows L2
theorem mulx_small {i j : Int} (h0 : -(10 ^ 60) ≤ i) (h1 : i ≤ 10 ^ 60) (h2 : -(10 ^ 60) ≤ j) (h3 : j ≤ 10 ^ 60) : CMulX i j :=
  cmul_of (a := 300) (b := 300) (Nat.lt_of_le_of_lt (show i.natAbs ≤ 10 ^ 60 by omega) (by decide)) (Nat.lt_of_le_of_lt (show j.natAbs ≤ 10 ^ 60 by omega) (by decide)) (by decide)
theorem Bd.sm {n : Int} (h0 : 0 ≤ n) (h : n ≤ 10 ^ 60) : Bd n := Bd.small (by omega) (Int.le_trans h (by decide))
def Sz (i : Int) : Prop := -(10 ^ 60) ≤ i ∧ i ≤ 10 ^ 60
theorem Sz.mul {i j : Int} (h : Sz i) (h' : Sz j) : CMulX i j := mulx_small h.1 h.2 h'.1 h'.2
theorem Sz.of {i : Int} (h : -(10 ^ 59) ≤ i) (h' : i ≤ 10 ^ 59) : Sz i := ⟨by omega, by omega⟩
theorem Sz.div {i : Int} (h : Sz i) (h0 : 0 < i) (j : Int) : CDivW j i := (Bd.sm (by omega) h.2).div h0 j
def asP (d : D) (k : Int → Int → Prop) : Prop := match d with | .tup [.int x, .int y] => k x y | _ => False
theorem asP_of {d : D} {k : Int → Int → Prop} (h : asP d k) : ∃ x y, d = .tup [.int x, .int y] ∧ k x y := by
  unfold asP at h
  split at h
  · exact ⟨_, _, rfl, h⟩
  · exact h.elim
def RtOk (a b : Int) : Prop := 0 < a ∧ a ≤ 10 ^ 30 ∧ 0 < b ∧ b ≤ 10 ^ 30
theorem RtOk.sa {a b : Int} (h : RtOk a b) : Sz a := ⟨by have := h.1; omega, by have := h.2.1; omega⟩
theorem RtOk.sb {a b : Int} (h : RtOk a b) : Sz b := ⟨by have := h.2.2.1; omega, by have := h.2.2.2; omega⟩
def EnOk (i : Int) : Prop := -5000 ≤ i ∧ i ≤ 5000
theorem EnOk.sz {i : Int} (h : EnOk i) : Sz i := ⟨by have := h.1; omega, by have := h.2; omega⟩
end Px
set_option Elab.async false
set_option linter.all false
set_option maxRecDepth 100000
namespace Px
open PySem PySem.Spec PyProof.Rows L2
def sp__law_lcm (C : Cl) : PSp := fun ds M q _ => ar1 ds fun d => ∃ ns, isSeq d ns ∧ SmOk ns ∧ ∀ d, d = .int (lcmL ns) → q d M
def rd__law_lcm (C : Cl) : PTS := (dSeq (dSet 1 (dC (.int 1)))
    (dSeq (dFor (iA (dVar 0)) (gNm 2) (dSeq (dPar 3 4 (dCons (dVar 1) (dCons (dVar 2) dNil)))
    (dSeq (dWhile (dTst (dOp fGt (dVar 4) (dC (.int 0)))) (dPar 3 4 (dCons (dVar 4) (dCons (dOp fMod (dVar 3) (dVar 4)) dNil))))
    (dSet 1 (dOp fMul (dOp fDiv (dVar 1) (dVar 3)) (dVar 2))))))
    (dRet (dVar 1))))
theorem sh__law_lcm (C : Cl) : Shows (sp__law_lcm C) 5 (rd__law_lcm C) := by
  intro ds M q e h
  obtain ⟨d, rfl, ns, hd, hn, hq⟩ := ar1_of h
  have hq := hq _ rfl
  dsimp only [rd__law_lcm, dSeq, dInN, dPutN, dGetN, dNewN, dCallL, dCallLK, dRetL, dRetOwn, dNext, dSet, dSetO, dRet, dRetN, dDrop, dIfS, dFor, dPar, dPar3, dParL2, dParL3, dAsg, dFrz, dIf, dTst, dOp, dVar, dOwn, dC, dB1, dG1, dL, dLst, dCons, dNil, dTup, dCall, dCallK, dAnd, dOr, dNot, dAndV, dOrV, dNotV, dNeg, dChain, dNever, dNeverS, dRaise, dYes, gNm, gsCons, gsNil, gTp, gt, st, fAdd, fSub, fMul, fDiv, fMod, fPow, fShl, fShr, fCmp, fEq, fNe, fEqS, fNeS, fIs, fIsNot, fLen, fMin, fMax, fMin2, fMax2, fAll, fAny, fAbs, fTup, fRepr, fIx, atD, isB, ls2, ls3, startR, ar1, ar2, ar3, ar4, asI, asT, asL, asDraw, sp_take, sp_pick, sp_begin, List.map, List.append, List.replicate, List.length, List.cons_append, List.nil_append, Nat.sub_self, Nat.reduceSub, Nat.reduceAdd, dApp, isOwn, appR, dSl, dPt, dNo, slR, asIn, List.map_cons, List.map_nil]
  refine iA_seq (pe := dVar 0) hd (by exact fun q' h => h) ?_
  refine forR_ind (fun rem ρ M' => M' = M ∧ ∃ (a : Int) (rs : List Int) (x2 x3 x4 : Option Sv), ρ = [some (.val d), some (.val (.int a)), x2, x3, x4] ∧ rem = rs.map .int ∧ 0 < a ∧ lcmL ns = rs.foldl lc a ∧ ∀ n ∈ rs, (1 : Int) ≤ n ∧ n ≤ 1000) ?_ ?_ _ _ _ ⟨rfl, 1, ns, _, _, _, rfl, rfl, by decide, rfl, hn.2⟩
  · rintro x r ρ M' ⟨rfl, a, rs, x2, x3, x4, rfl, hr, ha, hl, hp⟩ F hF
    cases rs with
    | nil => cases hr
    | cons n rs =>
      cases hr
      obtain ⟨s1, s2, s3⟩ := lc_step hn ha hl hp
      have hn1 := hp n List.mem_cons_self
      haveI : SzB 60 a := SzB.of (by omega) (by omega)
      have gp := g0_pos (x := a) (show 0 < n by omega)
      have gl := g0_le (x := a) (show 0 < n by omega)
      haveI : SzB 10 n := SzB.of (by omega) (by omega)
      haveI : SzB 10 (g0 a n) := SzB.of (by omega) (by omega)
      dsimp only [dSeq, dInN, dPutN, dGetN, dNewN, dCallL, dCallLK, dRetL, dRetOwn, dNext, dSet, dSetO, dRet, dRetN, dDrop, dIfS, dFor, dPar, dPar3, dParL2, dParL3, dAsg, dFrz, dIf, dTst, dOp, dVar, dOwn, dC, dB1, dG1, dL, dLst, dCons, dNil, dTup, dCall, dCallK, dAnd, dOr, dNot, dAndV, dOrV, dNotV, dNeg, dChain, dNever, dNeverS, dRaise, dYes, gNm, gsCons, gsNil, gTp, gt, st, fAdd, fSub, fMul, fDiv, fMod, fPow, fShl, fShr, fCmp, fEq, fNe, fEqS, fNeS, fIs, fIsNot, fLen, fMin, fMax, fMin2, fMax2, fAll, fAny, fAbs, fTup, fRepr, fIx, atD, isB, ls2, ls3, startR, ar1, ar2, ar3, ar4, asI, asT, asL, asDraw, sp_take, sp_pick, sp_begin, List.map, List.append, List.replicate, List.length, List.cons_append, List.nil_append, Nat.sub_self, Nat.reduceSub, Nat.reduceAdd, dApp, isOwn, appR, dSl, dPt, dNo, slR, asIn, List.map_cons, List.map_nil]
      refine ⟨fun m ρ M2 => ∃ x' y' : Int, ρ = [some (.val d), some (.val (.int a)), some (.val (.int n)), some (.val (.int x')), some (.val (.int y'))] ∧ M2 = M' ∧ 0 ≤ x' ∧ 0 ≤ y' ∧ g0 x' y' = g0 a n ∧ m = y'.toNat, ⟨_, a, n, rfl, rfl, by omega, by omega, rfl, rfl⟩, ?_⟩
      rintro m ρ M2 ⟨x', y', rfl, rfl, g1, g2, g3, rfl⟩
      by_cases hy : 0 < y'
      · refine itT (decide_eq_true hy) ⟨hy, ?_⟩
        have e1 := Int.emod_nonneg x' (show y' ≠ 0 by omega)
        have e2 := Int.emod_lt_of_pos x' hy
        exact ⟨_, by omega, y', x' % y', rfl, rfl, g2, e1, by rw [g0_step]; exact g3, rfl⟩
      · have e0 : y' = 0 := by omega
        rw [e0, g0_zero g1] at g3
        subst g3
        exact itF (decide_eq_false hy) ⟨(SzB.divX (by omega) inferInstance), (SzB.mulX inferInstance inferInstance), hF _ _ ⟨rfl, lc a n, rs, _, _, _, rfl, rfl, s2, s3, fun x q => hp x (List.mem_cons_of_mem _ q)⟩⟩
  · rintro ρ M' ⟨rfl, a, rs, x2, x3, x4, rfl, hr, ha, hl, hp⟩
    have e0 : rs = [] := by cases rs with | nil => rfl | cons => cases hr
    subst e0
    have hl : lcmL ns = a := hl
    exact ⟨M', MLe.refl _, hl ▸ hq⟩
def sp__law_seen (C : Cl) : PSp := fun ds M q _ => ar2 ds fun a b => asI a fun h => asP b fun t b => (0 < h ∧ h ≤ 10 ^ 40 ∧ 0 ≤ t ∧ t ≤ 10 ^ 60 ∧ 0 < b ∧ b ≤ 10 ^ 60) ∧ ∀ d, d = spd (near (2 * h * b) t) b → q d M
def rd__law_seen (C : Cl) : PTS := (dSeq (dAsg (dVar 1) (gTp 2 (gsCons (gNm 2) (gsCons (gNm 3) gsNil))))
    (dSeq (dSet 4 (dOp fMul (dOp fMul (dOp fMul (dOp fDiv (dVar 2) (dOp fMul (dOp fMul (dC (.int 2)) (dVar 0)) (dVar 3))) (dC (.int 2))) (dVar 0)) (dVar 3)))
    (dSeq (dSet 5 (dOp fMin2 (dOp fSub (dVar 2) (dVar 4)) (dOp fSub (dOp fAdd (dVar 4) (dOp fMul (dOp fMul (dC (.int 2)) (dVar 0)) (dVar 3))) (dVar 2))))
    (dRet (dCall sp_frac2 [] (dCons (dVar 5) (dCons (dVar 3) dNil)))))))
theorem sh__law_seen (C : Cl) : Shows (sp__law_seen C) 6 (rd__law_seen C) := by
  intro ds M q e h
  obtain ⟨a, b, rfl, h⟩ := ar2_of h
  obtain ⟨h', e1, h⟩ := asI_of h
  subst e1
  obtain ⟨t, b, rfl, ⟨h1, h2, h3, h4, h5, h6⟩, hq⟩ := asP_of h
  have hq := hq _ rfl
  haveI : SzB 140 h' := SzB.of (by omega) (by omega)
  haveI : SzB 210 t := SzB.of (by omega) (by omega)
  haveI : SzB 210 b := SzB.of (by omega) (by omega)
  have S0 : 0 < 2 * h' * b := Int.mul_pos (by omega) h5
  have e2 : t / (2 * h' * b) * 2 * h' * b = t / (2 * h' * b) * (2 * h' * b) := by rw [Int.mul_assoc, Int.mul_assoc, ← Int.mul_assoc 2 h' b]
  have e3 := Int.emod_add_mul_ediv t (2 * h' * b)
  have e4 : t / (2 * h' * b) * (2 * h' * b) = t - t % (2 * h' * b) := by rw [Int.mul_comm]; omega
  have n0 := near_bounds S0 t
  refine ⟨rfl, (SzB.mulX inferInstance inferInstance), (SzB.mulX inferInstance inferInstance), SzB.divX S0 inferInstance, (SzB.mulX inferInstance inferInstance), (SzB.mulX inferInstance inferInstance), (SzB.mulX inferInstance inferInstance), (SzB.mulX inferInstance inferInstance), (SzB.mulX inferInstance inferInstance), ?_⟩
  dsimp only [dSeq, dInN, dPutN, dGetN, dNewN, dCallL, dCallLK, dRetL, dRetOwn, dNext, dSet, dSetO, dRet, dRetN, dDrop, dIfS, dFor, dPar, dPar3, dParL2, dParL3, dAsg, dFrz, dIf, dTst, dOp, dVar, dOwn, dC, dB1, dG1, dL, dLst, dCons, dNil, dTup, dCall, dCallK, dAnd, dOr, dNot, dAndV, dOrV, dNotV, dNeg, dChain, dNever, dNeverS, dRaise, dYes, gNm, gsCons, gsNil, gTp, gt, st, fAdd, fSub, fMul, fDiv, fMod, fPow, fShl, fShr, fCmp, fEq, fNe, fEqS, fNeS, fIs, fIsNot, fLen, fMin, fMax, fMin2, fMax2, fAll, fAny, fAbs, fTup, fRepr, fIx, atD, isB, ls2, ls3, startR, ar1, ar2, ar3, ar4, asI, asT, asL, asDraw, sp_take, sp_pick, sp_begin, List.map, List.append, List.replicate, List.length, List.cons_append, List.nil_append, Nat.sub_self, Nat.reduceSub, Nat.reduceAdd, dApp, isOwn, appR, dSl, dPt, dNo, slR, asIn, List.map_cons, List.map_nil]
  have e5 : (if t / (2 * h' * b) * 2 * h' * b + 2 * h' * b - t < t - t / (2 * h' * b) * 2 * h' * b then t / (2 * h' * b) * 2 * h' * b + 2 * h' * b - t else t - t / (2 * h' * b) * 2 * h' * b) = near (2 * h' * b) t := by
    rw [e2, e4]
    unfold near
    rw [show t - t % (2 * h' * b) + 2 * h' * b - t = 2 * h' * b - t % (2 * h' * b) by omega, show t - (t - t % (2 * h' * b)) = t % (2 * h' * b) by omega]
  rw [e5]
  exact ⟨⟨n0.1, h5, SzB.bd (m := 210) inferInstance⟩, fun d hd => ⟨M, MLe.refl _, hd ▸ hq⟩⟩
theorem okD_ints {k : Nat} (ns : List Int) : (ns.map D.int).all (okD k) = true := by
  rw [List.all_map, List.all_eq_true]
  intro x _
  cases k <;> rfl
end Px
set_option Elab.async false
set_option linter.all false
set_option maxRecDepth 100000
namespace Px
open PySem PySem.Spec PyProof.Rows L2
section
variable {B : Cx} {tg elt iter : Expr} {ifs : List Expr} {scope : Scope} {pos : Pos} {g : TG} {tt : TT} {te : TE} {vs : List Nat} {σ : L2.St} {J : It} {D it : Addr} {fp : List Addr} {tn : Nat → Heap → Prop} {Q : Hp → Prop} {W : Nat → Nat → Hp → Prop}
end
section
variable {X : Cx}
end
end Px
set_option Elab.async false
set_option linter.all false
set_option maxRecDepth 100000
namespace Px
open PySem PySem.Spec PyProof.Rows L2
def Gh.here (g : Gh) (H F : Hp) (O : Own) : Gh where
  H0 := fun a => match O a with
    | none => H a
    | some (.obj _) => H a
    | some _ => none
  F0 := F
  own0 := fun a => ∃ m, O a = some (.obj m)
  tmp := g.tmp
section
variable {K : PySem.W.Frag} {g : Gh} {σ σ' : L2.St} {H H' F F' : Hp} {ρ ρ' : Rho} {M M' : Mm} {O O' : Own} {D : Addr} {o : HO}
theorem here_none (A : Ab K g σ H ρ M F O) {a : Addr} (e : (g.here H F O).H0 a = none) : g.H0 a = none := by
  unfold Gh.here at e
  dsimp only at e
  cases h : g.H0 a with
  | none => rfl
  | some u =>
    obtain ⟨u', hu⟩ := A.thr a u h
    cases ho : O a with
    | none => rw [ho, hu] at e; cases e
    | some w => cases w with
      | obj m => rw [ho, hu] at e; cases e
      | slot i => rw [A.slo a _ ho fun m z => by cases z] at h; cases h
      | tmp => rw [A.slo a _ ho fun m z => by cases z] at h; cases h
theorem here_some (A : Ab K g σ H ρ M F O) {a : Addr} {u : HO} (e : g.H0 a = some u) (n : ¬ g.own0 a) : (g.here H F O).H0 a = some u ∧ ¬ (g.here H F O).own0 a := by
  have h := A.frm a u e n
  have hO : O a = none := by
    cases ho : O a with
    | none => rfl
    | some w => rcases (A.liv a w ho).2.2 with z | z
                · exact absurd z n
                · rw [e] at z; cases z
  unfold Gh.here
  dsimp only
  rw [hO]
  exact ⟨h, fun ⟨m, z⟩ => by cases z⟩
theorem Ab.here (A : Ab K g σ H ρ M F O) : Ab K (g.here H F O) σ H ρ M F O :=
  { sub := A.sub, ext0 := Same.refl F, new := fun a u e => .inl e
    frm := fun a u e n => by
      unfold Gh.here at e
      dsimp only at e
      cases ho : O a with
      | none => rw [ho] at e; exact e
      | some w => cases w with
        | obj m => rw [ho] at e; exact e
        | slot i => rw [ho] at e; cases e
        | tmp => rw [ho] at e; cases e
    thr := fun a u e => by
      unfold Gh.here at e
      dsimp only at e
      cases ho : O a with
      | none => rw [ho] at e; exact ⟨u, e⟩
      | some w => cases w with
        | obj m => rw [ho] at e; exact ⟨u, e⟩
        | slot i => rw [ho] at e; cases e
        | tmp => rw [ho] at e; cases e
    liv := fun a w e => ⟨(A.liv a w e).1, (A.liv a w e).2.1, by
      unfold Gh.here
      dsimp only
      rw [e]
      cases w with
      | obj m => exact .inl ⟨m, rfl⟩
      | slot i => exact .inr rfl
      | tmp => exact .inr rfl⟩
    slo := fun a w e n => by
      unfold Gh.here
      dsimp only
      rw [e]
      cases w with
      | obj m => exact absurd rfl (n m)
      | slot i => rfl
      | tmp => rfl
    tm := A.tm, mu := A.mu, len := A.len, sl := A.sl }
theorem Ab.there (A : Ab K g σ H ρ M F O) (A' : Ab K (g.here H F O) σ' H' ρ' M' F' O') : Ab K g σ' H' ρ' M' F' O' :=
  { sub := A'.sub, ext0 := A.ext0.trans A'.ext0
    new := fun a u e => by
      rcases A'.new a u e with h | h
      · exact A.new a u h
      · exact .inr (here_none A h)
    frm := fun a u e n => let z := here_some A e n; A'.frm a u z.1 z.2
    thr := fun a u e => by
      cases h : (g.here H F O).H0 a with
      | some u' => exact A'.thr a u' h
      | none => rw [here_none A h] at e; cases e
    liv := fun a w e => ⟨(A'.liv a w e).1, (A'.liv a w e).2.1, by
      rcases (A'.liv a w e).2.2 with ⟨m, h⟩ | h
      · exact (A.liv a _ h).2.2
      · exact .inr (here_none A h)⟩
    slo := fun a w e n => here_none A (A'.slo a w e n)
    tm := A'.tm, mu := A'.mu, len := A'.len, sl := A'.sl }
theorem kept_at (A : Ab K g σ H ρ M F O) (hD : H D = some o) (hF : F D = none) (hO : O D = none) (A' : Ab K (g.here H F O) σ' H' ρ' M' F' O') : H' D = some o ∧ F' D = none ∧ O' D = none := by
  have h0 : (g.here H F O).H0 D = some o := by unfold Gh.here; dsimp only; rw [hO]; exact hD
  have n0 : ¬ (g.here H F O).own0 D := fun ⟨m, z⟩ => by rw [hO] at z; cases z
  refine ⟨A'.frm D o h0 n0, ?_, ?_⟩
  · cases h : F' D with
    | none => rfl
    | some u => rcases A'.new D u h with z | z
                · have z : F D = some u := z
                  rw [hF] at z; cases z
                · rw [h0] at z; cases z
  · cases h : O' D with
    | none => rfl
    | some w => rcases (A'.liv D w h).2.2 with z | z
                · exact absurd z n0
                · rw [h0] at z; cases z
theorem Ab.other (A : Ab K g σ H ρ M F O) (hF : F D = none) (hO : O D = none) (h0 : g.H0 D = none) : Ab K g σ (upd H D o) ρ M F O := by
  have ne : ∀ b w, O b = some w → b ≠ D := fun b w e z => by rw [z, hO] at e; cases e
  have ne0 : ∀ b u, g.H0 b = some u → b ≠ D := fun b u e z => by rw [z, h0] at e; cases e
  exact { sub := fun b u e => (upd_ne fun z => by rw [z, hF] at e; cases e).trans (A.sub b u e), ext0 := A.ext0, new := A.new
          frm := fun b u e n => (upd_ne (ne0 b u e)).trans (A.frm b u e n)
          thr := fun b u e => by
            obtain ⟨u', z⟩ := A.thr b u e
            exact ⟨u', (upd_ne (ne0 b u e)).trans z⟩
          liv := fun b w e => by
            obtain ⟨⟨u, z⟩, r⟩ := A.liv b w e
            exact ⟨⟨u, (upd_ne (ne b w e)).trans z⟩, r⟩
          slo := A.slo
          tm := fun p l e => by
            obtain ⟨xs, e1, e2, e3⟩ := A.tm p l e
            exact ⟨xs, (upd_ne (ne p _ e3)).trans e1, e2, e3⟩
          mu := fun b mo e => (A.mu b mo e).mono (Same.refl F) fun q u e1 e2 => ⟨(upd_ne (ne q _ e2)).trans e1, e2⟩
          len := A.len
          sl := fun j sv e => by
            obtain ⟨v, e1, r⟩ := A.sl j sv e
            exact ⟨v, e1, r.mono (Same.refl F) fun q xs e1 e2 => ⟨(upd_ne (ne q _ e2)).trans e1, e2⟩⟩ }
end
section
variable {X : Cx} {W : WX} {elt tg iter : Expr} {ifs : List Expr} {scope : Scope} {own : List (Str × Nat)} {pos p pos2 : Pos} {pl : PTA} {gd : PTG} {tt : PTT} {te : PTE} {is vs : List Nat}
end
end Px
set_option Elab.async false
set_option linter.all false
set_option maxRecDepth 100000
namespace Px
open PySem PySem.Spec PyProof.Rows L2
end Px
set_option Elab.async false
set_option linter.all false
set_option maxRecDepth 100000
namespace Px
open PySem PySem.Spec PyProof.Rows L2
section
variable {K : PySem.W.Frag} {F F' : Hp}
end
abbrev PC := PX → Mm → PQ → Prop
def actOf (c : PC) (i : Nat) (cl : D) : PTE := fun w ρ M k => gt ρ i = some (.val cl) ∧ ∃ (e : PX) (q : PQ), c e M q ∧ (∀ cls fs M', e cls fs M' → w cls fs ρ M') ∧ ∀ d M', q d M' → k d M'
def actIn (Z : Cx) (a : Str) (c : PC) (cl : D) : Prop := ∀ (pn : List (Addr × Obj)) (xe : Value → Shared → Prop) (W : WX) (p1 p2 : Pos), Takes (Z.tr pn xe) W → DE (Z.tr pn xe) W (.Call (.Name a p1) [] [] p2) (actOf c 0 cl)
def toSpC (K : PySem.W.Frag) (TT : PC → PC) (c : PC) (cl : D) (v : V) : Hp → VK → XK → Prop := fun H Q E => ∃ g F M O q e, Wd K g H M F O ∧ Rp K F cl v ∧ TT c e M q ∧
  (∀ v H' F' O' M' d, Aft K H F O H' M' F' O' → Rp K F' d v → q d M' → Q v H') ∧
  (∀ cls dd H' F' O' M' fs, Aft K H F O H' M' F' O' → ExOk K F' dd fs → e cls fs M' → E cls dd H')
section
variable (P : Program) (w : World) (K : PySem.W.Frag) (mg : Str → Option Value) (base : Heap)
structure FnC (j : Nat) (f : Addr) (fd : FuncData) (a qual : Str) (stm : Stmt) (N : List Str) (TT : PC → PC) : Prop where
  run : ∀ (A : Around) (outer : List Env) (s : Shared) (H : Hp) (u : Value) (cl : D) (v : V) (c : PC) (Q : VK) (E : XK), Room (j + 1) A → A.guards = some [] → Env0 P w K mg base A outer s H → BindsTo s fd ⟨[u], []⟩ [(a, u)] → RelV v u →
    (∀ cdv, Room j (A.deeper (envOfC qual (defScope stm) s.heap.objs.size f cdv)) → actIn (cxOf (L2.CX P w) P w K mg base N qual (defScope stm) f cdv A outer s H E) a c cl) → toSpC K TT c cl v H Q E →
    codeAny (model P w) A (.call (.ref f) ⟨[u], []⟩) (CR (L2.CX P w) outer P w H s Q E) s
end
section
variable {P : Program} {w : World} {K : PySem.W.Frag} {mg : Str → Option Value} {base : Heap} {j : Nat} {f : Addr} {fd : FuncData} {N : List Str}
end
section
variable {X : Cx} {pins : List (Addr × Obj)} {σ : L2.St} {H : Hp} {s : Shared} {ρ : Rho} {g : Addr} {cdg : Value} {qg : Str} {sg : Scope} {Ng : List Str} {Eg : XK} {k : Nat}
end
section
variable {X : Cx} {W : WX} {k : Nat} {g c P : Addr} {fd : FuncData} {a x qual qn : Str} {stm : Stmt} {N : List Str} {TT : PC → PC} {prm : Arguments} {bd : Expr} {scp : Scope} {lp p pos : Pos} {pb : PTE}
end
end Px
set_option Elab.async false
set_option linter.all false
set_option maxRecDepth 100000
namespace Px
open PySem PySem.Spec PyProof.Rows L2
section
variable {X : Cx} {pins : List (Addr × Obj)} {σ : L2.St} {H : Hp} {s sI : Shared} {a : Addr} {cls : Value} {d : Option Addr} {oe : Obj} {vs : Array Value}
end
structure Cla where
  c : Value
  i : Option Nat
  t : Addr → Value → Option Addr → TS
inductive ClaOk (X : Cx) : List ExceptHandler → List Cla → Prop
  | nil : ClaOk X [] []
  | bare {x : Str} {c : Value} {t : Addr → Value → Option Addr → TS} {b₀ : Stmt} {su : List Stmt} {np cp : Pos} {hds : List ExceptHandler} {l : List Cla} (hc : Names X x c)
      (hsu : ∀ a cls d pn, PSs (X.suite a pn) (b₀ :: su) (t a cls d)) (r : ClaOk X hds l) : ClaOk X (.ExceptHandler (some (.Name x np)) none (b₀ :: su) cp :: hds) (⟨c, none, t⟩ :: l)
  | named {x n : Str} {i : Nat} {c : Value} {t : Addr → Value → Option Addr → TS} {b₀ : Stmt} {su : List Stmt} {np cp : Pos} {hds : List ExceptHandler} {l : List Cla} (hc : Names X x c) (hi : X.N[i]? = some n) (hl : X.env.kindOf n = some .local)
      (hsu : ∀ a cls d pn, PSs (X.suite a pn) (b₀ :: su) (t a cls d)) (r : ClaOk X hds l) : ClaOk X (.ExceptHandler (some (.Name x np)) (some n) (b₀ :: su) cp :: hds) (⟨c, some i, t⟩ :: l)
section
variable {X : Cx} {body : List Stmt} {h₀ : ExceptHandler} {hds : List ExceptHandler} {l : List Cla} {pos : Pos} {tb : WX → TS} {Wo : WX}
end
end Px
set_option Elab.async false
set_option linter.all false
set_option maxRecDepth 100000
namespace Px
open PySem PySem.Spec PyProof.Rows L2
section
variable {K : PySem.W.Frag} {g : Gh} {σ : L2.St} {H : Hp} {ρ : Rho} {M : Mm} {F : Hp} {O : Own}
end
structure PCl where
  tb : Value → Bool → Prop
  i : Option Nat
  p : PTS
inductive PClOk (X : Cx) : List ExceptHandler → List PCl → Prop
  | nil : PClOk X [] []
  | bare {x : Str} {c : Value} {tb : Value → Bool → Prop} {p : PTS} {b₀ : Stmt} {su : List Stmt} {np cp : Pos} {hds : List ExceptHandler} {l : List PCl} (hc : Names X x c) (ht : ∀ cls b, tb cls b → PySem.W.exmOne X.K cls c = some b)
      (hsu : ∀ a pn, DSs (X.suite a pn) (fun _ _ _ _ => False) (b₀ :: su) p) (r : PClOk X hds l) : PClOk X (.ExceptHandler (some (.Name x np)) none (b₀ :: su) cp :: hds) (⟨tb, none, p⟩ :: l)
  | named {x n : Str} {i : Nat} {c : Value} {tb : Value → Bool → Prop} {p : PTS} {b₀ : Stmt} {su : List Stmt} {np cp : Pos} {hds : List ExceptHandler} {l : List PCl} (hc : Names X x c) (ht : ∀ cls b, tb cls b → PySem.W.exmOne X.K cls c = some b)
      (hi : X.N[i]? = some n) (hl : X.env.kindOf n = some .local) (hsu : ∀ a pn, DSs (X.suite a pn) (fun _ _ _ _ => False) (b₀ :: su) p) (r : PClOk X hds l) : PClOk X (.ExceptHandler (some (.Name x np)) (some n) (b₀ :: su) cp :: hds) (⟨tb, some i, p⟩ :: l)
section
variable {X : Cx} {W : WX} {body : List Stmt} {h₀ : ExceptHandler} {hds : List ExceptHandler} {l : List PCl} {pos : Pos} {pb : PTS}
end
end Px
set_option Elab.async false
set_option linter.all false
set_option maxRecDepth 100000
namespace Px
open PySem PySem.Spec PyProof.Rows L2
section
variable {X : Cx} {W : WX} {tg a b c : Expr} {rest : List Expr} {pa pb pc : PTE} {pos p : Pos}
end
end Px
set_option Elab.async false
set_option linter.all false
set_option maxRecDepth 100000
namespace Px
open PySem PySem.Spec PyProof.Rows L2
theorem WOk.here {K : PySem.W.Frag} {g : Gh} {σ : L2.St} {H F : Hp} {ρ : Rho} {M : Mm} {O : Own} {W : WX} {w : PWi} (A : Ab K g σ H ρ M F O) (h : WOk K g F W w) : WOk K (g.here H F O) F W w :=
  fun cls dd σ' H' ρ' M' F' O' fs A' s x y => h cls dd σ' H' ρ' M' F' O' fs (A.there A') s x y
section
variable {X : Cx} {W : WX} {pa pb pc : PTE}
end
end Px
set_option Elab.async false
set_option linter.all false
set_option maxRecDepth 100000
namespace Px
open PySem PySem.Spec PyProof.Rows L2
def delM (M : Mm) (p : Addr) : Mm := fun b => if b = p then none else M b
section
variable {K : PySem.W.Frag} {g : Gh} {σ : L2.St} {H : Hp} {F : Hp} {ρ : Rho} {M : Mm} {O : Own} {p : Addr} {mo : Mo}
theorem Ab.dropMo (A : Ab K g σ H ρ M F O) (hO : O p = some (.obj p)) : Ab K g σ H ρ (delM M p) F (fun b => if b = p then none else O b) := by
  have keep : ∀ b u, O b = some u → u ≠ .obj p → (if b = p then none else O b) = some u := fun b u e n => by
    rw [if_neg fun z => by rw [z, hO] at e; exact n (Option.some.inj e).symm]; exact e
  have back : ∀ b u, (if b = p then none else O b) = some u → O b = some u := fun b u e => by
    by_cases z : b = p
    · rw [if_pos z] at e; cases e
    · rw [if_neg z] at e; exact e
  exact { sub := A.sub, ext0 := A.ext0, new := A.new, frm := A.frm, thr := A.thr
          liv := fun b u e => A.liv b u (back b u e)
          slo := fun b u e n => A.slo b u (back b u e) n
          tm := fun q l e => by
            obtain ⟨xs, e1, e2, e3⟩ := A.tm q l e
            exact ⟨xs, e1, e2, keep q _ e3 fun z => by cases z⟩
          mu := fun b m e => by
            have e' : (if b = p then none else M b) = some m := e
            by_cases z : b = p
            · rw [if_pos z] at e'; cases e'
            · rw [if_neg z] at e'
              exact (A.mu b m e').mono (Same.refl F) fun q u e1 e2 => ⟨e1, keep q _ e2 fun y => by injection y with y; exact z y⟩
          len := A.len
          sl := fun j sv e => by
            obtain ⟨v, e1, r⟩ := A.sl j sv e
            exact ⟨v, e1, r.mono (Same.refl F) fun q xs e1 e2 => ⟨e1, keep q _ e2 fun z => by cases z⟩⟩ }
end
def dMake (C : Addr) (sp : PSp) (pl : PTA) : PTE := fun w ρ M q => pl w ρ M fun ds M1 => ∀ a, M1 a = none →
  sp (.raw (.ref a) :: ds) (updM M1 a (.ins C [])) (fun d M2 => d = .non ∧ ∃ fs, M2 a = some (.ins C fs) ∧ q (.obj C (fs.map (·.1)) (fs.map (·.2))) (delM M2 a)) fun cls fs M2 => w cls fs ρ M2
section
variable {X : Cx} {W : WX} {k n : Nat} {f C : Addr} {fd : FuncData} {ps : List Str} {sp : PSp} {x : Str} {p pos : Pos} {e : Expr} {es : List Expr} {pl : PTA}
theorem run_makeG {sp : Sp} {pins : List (Addr × Obj)} {σ : L2.St} {H : Hp} {s : Shared} {Q : VK} {us : List Value} {vs : List V} (Mk : L2.Mk X.K C f) (Fg : FnG X.prog X.w X.K X.mg X.base k f fd ps sp) (hr : Room (k + 1) X.A) (hG : X.A.guards = some []) (hb : Binds X.K fd ps [])
    (tk : Takes X W) (I : Inv X pins σ H s) (r : Vals vs us) (h : ∀ a dx, H a = none → H dx = none → dx ≠ a → sp (.ref a :: vs) (upd (upd H dx (.own a)) a (.ins C dx [])) (fun v H2 => v = .non ∧ Q (.ref a) H2) fun cls d H' => W cls d σ H') :
    wpAny (model X.prog X.w) X.A (call (.ref C) us) (EP X pins σ Q) X.xe s := by
  have J := Inv.made (C := C) I
  have hq := h _ _ (I.hok.fresh (Nat.le_succ s.heap.objs.size)) (I.hok.fresh (Nat.le_refl _)) (Nat.ne_of_lt (Nat.lt_succ_self _))
  have rs : Vals (V.ref (s.heap.objs.size + 1) :: vs) (Value.ref (s.heap.objs.size + 1) :: us) := .cons rfl r
  have hl : ((Value.ref (s.heap.objs.size + 1) :: us) ++ []).length = ps.length := by
    rw [List.append_nil, ← rs.length]
    exact Fg.len _ _ _ _ hq
  have bd := hb _ (Value.ref (s.heap.objs.size + 1) :: us) J.kIn hl
  rw [List.append_nil] at bd
  refine wpAny_call (L2.make_map (f := f) I.kIn Mk.makes Mk.init (beq_iff_eq.mp Mk.fn) (codeAny_mono (Fg.run _ X.stack _ _ ⟨_ :: us, []⟩ _ _ _ _ (hr.make C us []) hG (J.env0.make C us []) bd rs hq) fun o s2 ho => ?_))
  cases o with
  | error er => exact tk er s2 (XE.of_call J (fun _ _ _ z => z) ho)
  | ok fl =>
    cases fl with
    | ret u =>
      obtain ⟨v, H2, I2, rv, ev, q2⟩ := J.after ho
      rw [ev] at rv
      exact ⟨rv, V.ref _, H2, I2, rfl, q2⟩
    | next => exact ho.elim
    | brk => exact ho.elim
    | cont => exact ho.elim
theorem make_reading {K : PySem.W.Frag} {g : Gh} {σ : L2.St} {H : Hp} {ρ : Rho} {M : Mm} {F : Hp} {O : Own} {w : PWi} {q : PQ} {ds : List D} {vs : List V} {Q : VK} {a dx : Addr} (ha : H a = none) (hd : H dx = none) (ne : dx ≠ a) (A : Ab K g σ H ρ M F O) (hw : WOk K g F W w) (r : RpL K F ds vs) (hl : ds.length + 1 = n)
    (h : sp (.raw (.ref a) :: ds) (updM M a (.ins C [])) (fun d M2 => d = .non ∧ ∃ fs, M2 a = some (.ins C fs) ∧ q (.obj C (fs.map (·.1)) (fs.map (·.2))) (delM M2 a)) fun cls fs M2 => w cls fs ρ M2)
    (k : ∀ v H' F' O' M' d, Ab K g σ H' ρ M' F' O' → Same F F' → Rp K F' d v → q d M' → Q v H') :
    toSp K n sp (.ref a :: vs) (upd (upd H dx (.own a)) a (.ins C dx [])) (fun v H2 => v = .non ∧ Q (.ref a) H2) fun cls d H' => W cls d σ H' := by
  have A1 := A.laid (o := .own a) hd
  have ha1 : upd H dx (.own a) a = none := (upd_ne (Ne.symm ne)).trans ha
  have A2 := A1.newMo (o := .ins C dx []) (mo := .ins C []) ha1 ⟨dx, [], upd_same, if_pos rfl, rfl, rfl⟩
  refine ⟨g, F, _, _, .raw (.ref a) :: ds, _, _, by rw [List.length_cons, ← r.len, hl], A2.toWd, ⟨_, vs, rfl, rfl, r⟩, h, fun v H' F' O' M' d B rd hq => ?_, fun cls dd H' F' O' M' fs B xk hq => ?_⟩
  · obtain ⟨rfl, fs, hM, hq⟩ := hq
    obtain ⟨O2, A3, s⟩ := A2.after B
    obtain ⟨dx', ys, e1, e2, e3, e4⟩ := A3.mu a _ hM
    have hF := (A3.liv a _ e2).2.1
    have A4 := (A3.dropMo e2).freeze e1 hF (if_pos rfl) (A.g0 ha)
    have s2 := s.trans (same_new (o := .ins C dx' ys) hF)
    exact ⟨rd, k (.ref a) H' _ _ _ (.obj C (fs.map (·.1)) (fs.map (·.2))) A4 s2 ⟨a, dx', ys, rfl, upd_same, e3, RpL.mono (same_new hF) _ _ e4⟩ hq⟩
  · obtain ⟨O2, A3, s⟩ := A2.after B
    exact hw cls dd σ H' ρ M' F' O2 fs A3 s xk hq
theorem de_make (Mk : L2.Mk X.K C f) (Fg : FnG X.prog X.w X.K X.mg X.base k f fd ps (toSp X.K n sp)) (hlen : ∀ ds M q e, sp ds M q e → ds.length = n) (hr : Room (k + 1) X.A) (hG : X.A.guards = some []) (hg : Gl X x) (hm : X.mg x = some (.ref C))
    (hb : Binds X.K fd ps []) (tk : Takes X W) (ha : DA X W (e :: es) pl) (hdb : (x == ("__debug__" : Str)) = false := by decide)
    (he : starEach (e :: es) X.env = (false, eval e X.env) :: starEach es X.env := by rfl) (hpl : (backTo pos (starEach es X.env)).any (·.1) = false := by rfl) : DE X W (.Call (.Name x p) (e :: es) [] pos) (dMake C sp pl) := by
  refine ⟨fun pins s σ H Q I ⟨g, ρ, M, F, O, q, w, A, pr, hw, kk⟩ => ?_⟩
  refine wpAny_Call_Name_kw (ld_glob I hg hm ?_ hdb)
  refine PySem.W.callWith_K (h₀ := X.base) I.ok.mod.kin Mk.kp (thn (ha.run pos pins s σ H (fun vs H1 => ∀ a dx, H1 a = none → H1 dx = none → dx ≠ a → toSp X.K n sp (.ref a :: vs) (upd (upd H1 dx (.own a)) a (.ins C dx [])) (fun v H2 => v = .non ∧ Q (.ref a) H2) fun cls d H' => W cls d σ H') I ?_) fun us s1 hh => ?_) he hpl
  · refine ⟨g, ρ, M, F, O, _, w, A, pr, hw, fun vs H1 F1 O1 M1 d1 A1 s1 r1 q1 a dx h1 h2 h3 => ?_⟩
    have hM : M1 a = none := A1.m0 h1
    have q2 := q1 a hM
    exact make_reading h1 h2 h3 A1 (hw.mono s1) r1 (by have := hlen _ _ _ _ q2; rw [List.length_cons] at this; exact this) q2 fun v H2 F2 O2 M2 d2 A2 s2 r2 z => kk v H2 F2 O2 M2 d2 A2 (s1.trans s2) r2 z
  · obtain ⟨vs, H1, I1, r, q1⟩ := hh
    exact ⟨I1.kIn, run_makeG Mk Fg hr hG hb tk I1 r q1⟩
end
end Px
set_option Elab.async false
set_option linter.all false
set_option maxRecDepth 100000
namespace Px
open PySem PySem.Spec PyProof.Rows L2
theorem look_rel {K : PySem.W.Frag} {F : Hp} {f : Str} {d : D} : ∀ (ns : List Str) (l : List D) (ys : List (Str × V)), ys.map (·.1) = ns → RpL K F l (ys.map (·.2)) → (ns.zip l).lookup f = some d → ∃ v, ys.lookup f = some v ∧ Rp K F d v
  | [], _, _, _, _, h => by
    rw [List.zip_nil_left] at h
    cases h
  | n :: ns, [], _, _, _, h => by
    rw [List.zip_nil_right] at h
    cases h
  | n :: ns, x :: l, [], e, _, _ => by cases e
  | n :: ns, x :: l, (m, v) :: ys, e, r, h => by
    injection e with e1 e2
    have e1 : m = n := e1
    subst e1
    obtain ⟨v', vr, e3, r1, r2⟩ := r
    injection e3 with e4 e5
    subst e4
    subst e5
    rw [List.zip_cons_cons, List.lookup_cons] at h
    rw [List.lookup_cons]
    cases c : f == m with
    | true =>
      rw [c] at h
      cases h
      exact ⟨v, rfl, r1⟩
    | false =>
      rw [c] at h
      exact look_rel ns l ys e2 r2 h
theorem zip_fs : ∀ fs : List (Str × D), (fs.map (·.1)).zip (fs.map (·.2)) = fs
  | [] => rfl
  | (n, d) :: r => by rw [List.map_cons, List.map_cons, List.zip_cons_cons, zip_fs r]
def fldAt (C : Addr) (f : Str) (d : D) (M : Mm) (k : D → Prop) : Prop := match d with
  | .obj C' ns l => C' = C ∧ ∃ v, (ns.zip l).lookup f = some v ∧ k v
  | .raw (.ref a) => ∃ fs v, M a = some (.ins C fs) ∧ fs.lookup f = some v ∧ k v
  | _ => False
def dFld (C : Addr) (f : Str) (pe : PTE) : PTE := fun w ρ M q => pe w ρ M fun d M1 => fldAt C f d M1 fun v => q v M1
theorem fld_is {K : PySem.W.Frag} {g : Gh} {σ : L2.St} {H : Hp} {ρ : Rho} {M : Mm} {F : Hp} {O : Own} {C : Addr} {f : Str} {d : D} {u : V} {k : D → Prop} (A : Ab K g σ H ρ M F O) (r : Rp K F d u) (h : fldAt C f d M k) :
    ∃ a dx fs v d', u = .ref a ∧ H a = some (.ins C dx fs) ∧ fs.lookup f = some v ∧ Rp K F d' v ∧ k d' := by
  unfold fldAt at h
  split at h
  · obtain ⟨rfl, d', h1, h2⟩ := h
    obtain ⟨a, dx, fs, e, e1, e2, e3⟩ := r
    obtain ⟨v, e4, e5⟩ := look_rel _ _ fs e2 e3 h1
    exact ⟨a, dx, fs, v, d', e, A.sub _ _ e1, e4, e5, h2⟩
  · rename_i a
    obtain ⟨fs, d', h1, h2, h3⟩ := h
    obtain ⟨dx, ys, e1, e2, e3, e4⟩ := A.mu a _ h1
    obtain ⟨v, e5, e6⟩ := look_rel (fs.map (·.1)) (fs.map (·.2)) ys e3 e4 (by rw [zip_fs]; exact h2)
    exact ⟨a, dx, ys, v, d', r, e1, e5, e6, h3⟩
  · exact h.elim
def putFD (f : Str) (v : D) : List (Str × D) → List (Str × D)
  | [] => [(f, v)]
  | (g, x) :: r => if g = f then (g, v) :: r else (g, x) :: putFD f v r
theorem put_rel {K : PySem.W.Frag} {F : Hp} {f : Str} {d : D} {v : V} (hv : Rp K F d v) : ∀ (fs : List (Str × D)) (ys : List (Str × V)), ys.map (·.1) = fs.map (·.1) → RpL K F (fs.map (·.2)) (ys.map (·.2)) →
    (putF f v ys).map (·.1) = (putFD f d fs).map (·.1) ∧ RpL K F ((putFD f d fs).map (·.2)) ((putF f v ys).map (·.2))
  | [], [], _, _ => ⟨rfl, v, [], rfl, hv, rfl⟩
  | [], _ :: _, e, _ => by cases e
  | _ :: _, [], e, _ => by cases e
  | (n, x) :: fs, (m, y) :: ys, e, r => by
    injection e with e1 e2
    have e1 : m = n := e1
    subst e1
    obtain ⟨v', vr, e3, r1, r2⟩ := r
    injection e3 with e4 e5
    subst e4
    subst e5
    unfold putFD putF
    by_cases c : m = f
    · rw [if_pos c, if_pos c]
      exact ⟨by rw [List.map_cons, List.map_cons, e2], v, _, rfl, hv, r2⟩
    · rw [if_neg c, if_neg c]
      obtain ⟨i1, i2⟩ := put_rel (f := f) hv fs ys e2 r2
      exact ⟨by rw [List.map_cons, List.map_cons, i1], y, _, rfl, r1, i2⟩
def insAt (C : Addr) (d : D) (M : Mm) (k : Addr → List (Str × D) → Prop) : Prop := match d with
  | .raw (.ref a) => ∃ fs, M a = some (.ins C fs) ∧ k a fs
  | _ => False
theorem insAt_of {C : Addr} {d : D} {M : Mm} {k : Addr → List (Str × D) → Prop} (h : insAt C d M k) : ∃ a fs, d = .raw (.ref a) ∧ M a = some (.ins C fs) ∧ k a fs := by
  unfold insAt at h
  split at h
  · obtain ⟨fs, h1, h2⟩ := h
    exact ⟨_, fs, rfl, h1, h2⟩
  · exact h.elim
def dFldSet (C : Addr) (f : Str) (pe po : PTE) : PTS := fun w P ρ M => pe w ρ M fun d M1 => po w ρ M1 fun o M2 => insAt C o M2 fun a fs => fs.length < 1000 ∧ P.nx ρ (updM M2 a (.ins C (putFD f d fs)))
section
variable {X : Cx} {W : WX} {C : Addr} {f : Str} {e o value : Expr} {pos pos' : Pos} {pe po : PTE}
theorem de_fld (hc : Cls X.K C) (hn : NoAttr X.K C f) (he : DE X W e pe) (hb : attributeBase e f X.env (eval e X.env) = eval e X.env := by rfl) : DE X W (.Attribute e f pos) (dFld C f pe) :=
  pe_imp (pe_fld he hb) fun σ H Q ⟨g, ρ, M, F, O, q, w, A, pr, hw, k⟩ => ⟨g, ρ, M, F, O, _, w, A, pr, hw, fun v H1 F1 O1 M1 d A1 s1 r1 q1 => by
    obtain ⟨a, dx, fs, u, d', e1, e2, e3, e4, e5⟩ := fld_is A1 r1 q1
    exact ⟨a, C, dx, fs, u, e1, e2, hc, hn, e3, k u H1 F1 O1 M1 d' A1 s1 e4 e5⟩⟩
theorem ds_fldSet (hc : Cls X.K C) (hn : NoAttr X.K C f) (ho : DE X W o po) (hv : DE X W value pe) (hs : swapsWith value (some (.Attribute o f pos')) pos.line X.env = pure false := by rfl) : DS X W (.Assign [.Attribute o f pos'] value pos) (dFldSet C f pe po) :=
  ps_imp (ps_fld ho hv hs) fun D σ H ⟨g, ρ, M, F, O, P, w, A, h, hw, k1, _⟩ => ⟨g, ρ, M, F, O, _, w, A, h, hw, fun v H1 F1 O1 M1 d A1 s1 r1 q1 => ⟨g, ρ, M1, F1, O1, _, w, A1, q1, hw.mono s1, fun u H2 F2 O2 M2 z A2 s2 r2 q2 => by
    obtain ⟨a, fs, rfl, hM, hl, q3⟩ := insAt_of q2
    obtain ⟨dx, ys, e1, e2, e3, e4⟩ := A2.mu a _ hM
    have e : u = .ref a := r2
    obtain ⟨i1, i2⟩ := put_rel (f := f) (Rp.mono s2 _ _ r1) fs ys e3 e4
    have hlen : ys.length = fs.length := by
      have := congrArg List.length e3
      rw [List.length_map, List.length_map] at this
      exact this
    refine ⟨a, C, dx, ys, e, e1, hc, hn, by omega, ?_⟩
    exact k1 σ _ ρ _ F2 O2 (A2.setMo hM e2 (o := .ins C dx (putF f v ys)) (mo' := .ins C (putFD f d fs)) ⟨dx, _, upd_same, e2, i1, i2⟩) (s1.trans s2) q3⟩⟩
end
end Px
set_option Elab.async false
set_option linter.all false
set_option maxRecDepth 100000
namespace Px
open PySem PySem.Spec PyProof.Rows L2
theorem look_none {m : Str} : ∀ ys : List (Str × V), m ∉ ys.map (·.1) → ys.lookup m = none
  | [], _ => rfl
  | (n, v) :: r, h => by
    rw [List.lookup_cons]
    have h1 : m ≠ n := fun e => h (by rw [e]; exact List.mem_cons_self)
    rw [beq_eq_false_iff_ne.mpr h1]
    exact look_none r fun z => h (List.mem_cons_of_mem _ z)
def insOf (C : Addr) (m : Str) (d : D) (M : Mm) : Prop := match d with
  | .obj C' ns _ => C' = C ∧ m ∉ ns
  | .raw (.ref a) => ∃ fs, M a = some (.ins C fs) ∧ m ∉ fs.map (·.1)
  | _ => False
theorem insOf_is {K : PySem.W.Frag} {g : Gh} {σ : L2.St} {H : Hp} {ρ : Rho} {M : Mm} {F : Hp} {O : Own} {C : Addr} {m : Str} {d : D} {u : V} (A : Ab K g σ H ρ M F O) (r : Rp K F d u) (h : insOf C m d M) :
    ∃ a dx fs, u = .ref a ∧ H a = some (.ins C dx fs) ∧ fs.lookup m = none := by
  unfold insOf at h
  split at h
  · obtain ⟨rfl, h1⟩ := h
    obtain ⟨a, dx, fs, e, e1, e2, _⟩ := r
    exact ⟨a, dx, fs, e, A.sub _ _ e1, look_none fs (by rw [e2]; exact h1)⟩
  · rename_i a
    obtain ⟨fs, h1, h2⟩ := h
    obtain ⟨dx, ys, e1, e2, e3, _⟩ := A.mu a _ h1
    exact ⟨a, dx, ys, r, e1, look_none ys (by rw [e3]; exact h2)⟩
  · exact h.elim
def dMeth (C : Addr) (m : Str) (sp : PSp) (po : PTE) (pl : PTA) : PTE := fun w ρ M q => po w ρ M fun d M1 => insOf C m d M1 ∧ pl w ρ M1 fun ds M2 => sp (d :: ds) M2 q fun cls fs M3 => w cls fs ρ M3
section
variable {X : Cx} {W : WX} {k n : Nat} {f g p C : Addr} {fd : FuncData} {ps : List Str} {sp : PSp} {m pf : Str} {pos apos : Pos} {e o : Expr} {es : List Expr} {pe po : PTE} {pl : PTA}
theorem meth_reading {K : PySem.W.Frag} {g : Gh} {σ : L2.St} {H : Hp} {ρ : Rho} {M : Mm} {F : Hp} {O : Own} {w : PWi} {q : PQ} {d : D} {u : V} {ds : List D} {vs : List V} {Q : VK} (A : Ab K g σ H ρ M F O) (hw : WOk K g F W w)
    (ru : Rp K F d u) (r : RpL K F ds vs) (hl : (d :: ds).length = n) (h : sp (d :: ds) M q fun cls fs M2 => w cls fs ρ M2) (k : ∀ v H' F' O' M' d, Ab K g σ H' ρ M' F' O' → Same F F' → Rp K F' d v → q d M' → Q v H') :
    toSp K n sp (u :: vs) H Q fun cls d H' => W cls d σ H' := by
  have z := call_reading (dd := []) (dvs := []) (ps := List.replicate n "") (W := W) (List.length_replicate ..) (fun _ => rfl) A hw (show RpL K F (d :: ds) (u :: vs) from ⟨u, vs, rfl, ru, r⟩) (by rw [List.append_nil]; exact hl) (by rw [List.append_nil]; exact h) k
  rw [List.append_nil] at z
  exact z
theorem de_meth {pt : Sem Bool} (hc : Cls X.K C) (hm : Meth X.K C m f) (Fg : FnG X.prog X.w X.K X.mg X.base k f fd ps (toSp X.K n sp)) (hlen : ∀ ds M q e, sp ds M q e → ds.length = n) (hr : Room k X.A) (hG : X.A.guards = some []) (hb : Binds X.K fd ps [])
    (tk : Takes X W) (ho : DE X W o po) (ha : DA X W (e :: es) pl) (hst : starEach (e :: es) X.env = (false, eval e X.env) :: starEach es X.env := by rfl) (hpl : (backTo pos (starEach es X.env)).any (·.1) = false := by rfl)
    (ht : eval (.Call (.Attribute o m apos) (e :: es) [] pos) X.env = (do
      let ov ← eval o X.env
      standAt apos.atName
      let (f, first) ← holding [ov] (getMethod ov m pt)
      callWith pos f first (backTo pos (starEach (e :: es) X.env)) (backToKw pos (keywordEach [] X.env))) := by rfl) :
    DE X W (.Call (.Attribute o m apos) (e :: es) [] pos) (dMeth C m sp po pl) := by
  refine ⟨fun pins s σ H Q I ⟨g, ρ, M, F, O, q, w, A, pr, hw, kk⟩ => ?_⟩
  refine PySem.W.methodCall_KW (pl := pt) (thn (ho.run pins s σ H (fun x H1 => ∃ a dx fs, x = .ref a ∧ H1 a = some (.ins C dx fs) ∧ fs.lookup m = none ∧ realA X.K W pl σ H1 fun vs H2 => toSp X.K n sp (x :: vs) H2 Q fun cls d H' => W cls d σ H') I ?_) fun u s1 hh => ?_) ht
  · refine ⟨g, ρ, M, F, O, _, w, A, pr, hw, fun v H1 F1 O1 M1 d A1 s1 r1 q1 => ?_⟩
    obtain ⟨hi, q1⟩ := q1
    obtain ⟨a, dx, fs, e1, e2, e3⟩ := insOf_is A1 r1 hi
    refine ⟨a, dx, fs, e1, e2, e3, g, ρ, M1, F1, O1, _, w, A1, q1, hw.mono s1, fun vs H2 F2 O2 M2 ds A2 s2 r2 q2 => ?_⟩
    exact meth_reading A2 ((hw.mono s1).mono s2) (Rp.mono s2 _ _ r1) r2 (hlen _ _ _ _ q2) q2 fun v3 H3 F3 O3 M3 d3 A3 s3 r3 q3 => kk v3 H3 F3 O3 M3 d3 A3 ((s1.trans s2).trans s3) r3 q3
  · obtain ⟨x, H1, I1, rx, a, dx, fs, ex, ea, l, q1⟩ := hh
    subst ex
    have eu : u = Value.ref a := rx
    subst eu
    refine getmeth_ok I1 ea hc hm l ?_
    refine PySem.W.callWith_K (first := [.ref a]) (h₀ := X.base) I1.ok.mod.kin hm.kp (thn (ha.run pos pins s1 σ H1 _ I1 q1) fun us s2 hh2 => ?_) hst hpl
    obtain ⟨vs, H2, I2, r2, q2⟩ := hh2
    refine ⟨I2.kIn, ?_⟩
    have z := run_g (us := .ref a :: us) (vs := .ref a :: vs) (ds := []) (dvs := []) Fg hr hG hb .nil tk I2 (.cons rfl r2) (by rw [List.append_nil]; exact q2)
    exact z
theorem de_meth0 {pt : Sem Bool} (hc : Cls X.K C) (hm : Meth X.K C m f) (Fg : FnG X.prog X.w X.K X.mg X.base k f fd ps (toSp X.K n sp)) (hlen : ∀ ds M q e, sp ds M q e → ds.length = n) (hr : Room k X.A) (hG : X.A.guards = some []) (hb : Binds X.K fd ps [])
    (tk : Takes X W) (ho : DE X W o po)
    (ht : eval (.Call (.Attribute o m apos) [] [] pos) X.env = (do
      let ov ← eval o X.env
      standAt apos.atName
      let (f, first) ← holding [ov] (getMethod ov m pt)
      callWith pos f first (backTo pos (starEach [] X.env)) (backToKw pos (keywordEach [] X.env))) := by rfl) :
    DE X W (.Call (.Attribute o m apos) [] [] pos) (dMeth C m sp po dNil) := by
  refine ⟨fun pins s σ H Q I ⟨g, ρ, M, F, O, q, w, A, pr, hw, kk⟩ => ?_⟩
  refine PySem.W.methodCall_KW (pl := pt) (thn (ho.run pins s σ H (fun x H1 => ∃ a dx fs, x = .ref a ∧ H1 a = some (.ins C dx fs) ∧ fs.lookup m = none ∧ toSp X.K n sp [x] H1 Q fun cls d H' => W cls d σ H') I ?_) fun u s1 hh => ?_) ht
  · refine ⟨g, ρ, M, F, O, _, w, A, pr, hw, fun v H1 F1 O1 M1 d A1 s1 r1 q1 => ?_⟩
    obtain ⟨hi, q1⟩ := q1
    obtain ⟨a, dx, fs, e1, e2, e3⟩ := insOf_is A1 r1 hi
    have q1 : sp [d] M1 q fun cls fs M3 => w cls fs ρ M3 := q1
    refine ⟨a, dx, fs, e1, e2, e3, ?_⟩
    exact meth_reading A1 (hw.mono s1) r1 (show RpL X.K F1 [] [] from rfl) (hlen _ _ _ _ q1) q1 fun v3 H3 F3 O3 M3 d3 A3 s3 r3 q3 => kk v3 H3 F3 O3 M3 d3 A3 (s1.trans s3) r3 q3
  · obtain ⟨x, H1, I1, rx, a, dx, fs, ex, ea, l, q1⟩ := hh
    subst ex
    have eu : u = Value.ref a := rx
    subst eu
    refine getmeth_ok I1 ea hc hm l ?_
    exact PySem.W.callWith_K0 (first := [.ref a]) I1.kIn hm.kp (run_g (us := [.ref a]) (vs := [.ref a]) (ds := []) (dvs := []) Fg hr hG hb .nil tk I1 (.cons rfl .nil) q1)
end
end Px
set_option Elab.async false
set_option linter.all false
set_option maxRecDepth 100000
namespace Px
open PySem PySem.Spec PyProof.Rows L2
structure ExC (K : PySem.W.Frag) (C : Addr) : Prop where
  cl : (PySem.W.clsIn K C).isSome = true
  ga : PySem.W.findIn K (.ref C) "__getattribute__" = some (some (.builtin "BaseException.__getattribute__"))
  gt : PySem.W.findIn K (.ref C) "__getattr__" = some none
  su : PySem.W.subIn K (.ref C) (.type "BaseException") = some true
  hd : PySem.W.hasDictIn K C = true
  ca : PySem.W.findIn K (.ref C) "__class__" = some (some (.builtin "object.__class__"))
  cn : PySem.W.specialIn K (.builtin "object.__class__") "__get__" = some (some (.builtin "getset_descriptor.__get__"))
  ct : PySem.W.takesIn K (.builtin "object.__class__") = some true
  cm : PySem.W.mroIn K C (.type "object") = some true
section
variable {X : Cx} {pins : List (Addr × Obj)} {σ : L2.St} {H : Hp} {s : Shared} {a C : Addr} {d : Option Addr}
end
section
variable {X : Cx} {W : WX} {C : Addr} {a e : Expr} {pa pe : PTE} {p p2 pos : Pos} {x2 : Str}
end
def rCountD (K : PySem.W.Frag) : V → List V → Hp → VK → Prop := fun x xs H Q => ∃ (a : Addr) (y : V) (d : PyData) (ds : List PyData), x = V.ref a ∧ xs = [y] ∧ Dp K H (V.ref a) (.list ds) ∧ Dp K H y d ∧
  SeqAt.shaped (.list ds) = true ∧ SeqAt.shaped d = true ∧ PyData.plainAll ds = true ∧ d.plain = true ∧ Q (.int ((ds.countP fun y => PyData.eqv y d : Nat) : Int)) H
theorem mt_countD {X : Cx} (hu : X.A.units + 65 < cLine) : MtR X "list.count" (rCountD X.K) := by
  intro pins s σ H x xs v us Q I rx rxs h
  obtain ⟨a, y, d, ds, rfl, rfl, hl, hy, s1, s2, p1, p2, q⟩ := h
  cases rx
  cases rxs with
  | cons ry rt =>
    cases rt
    obtain ⟨bs, r1⟩ := Dp.reads I d y _ hy ry
    have room : X.A.units + 1 + min (PyData.depthAll ds) d.depth < cLine := room_in_shaped s2 hu
    cases hl with
    | lst hs ha =>
      obtain ⟨its, rv, il, _⟩ := I.list hs
      obtain ⟨as, r2⟩ := Dp.readsAll I ds _ its ha rv
      exact SeqAt.count_list_data il.isList (by simpa using r2) r1 p1 p2 room ⟨.int _, H, I.tok _, ⟨s.toks, rfl⟩, q⟩
section
variable {X : Cx} {W : WX} {o e : Expr} {po pe : PTE} {apos cpos : Pos}
theorem vw_tyL {K : PySem.W.Frag} {g : Gh} {σ : L2.St} {H : Hp} {ρ : Rho} {M : Mm} {F : Hp} {O : Own} {l : List D} {v : V} (A : Ab K g σ H ρ M F O) (r : Vw K σ ρ F (.lst l) v) : tyV K "list" v H := by
  obtain ⟨a, xs, e, h, _⟩ := r.lst A
  rw [e]
  exact .inl ⟨rfl, xs, .inl (.inl h)⟩
def dMtL (f : F2) (po pe : PTE) : PTE := fun w ρ M q => po w ρ M fun x M1 => (∃ l, x = .lst l) ∧ pe w ρ M1 fun y M2 => f x y fun z => q z M2
theorem mtl_run {r : V → List V → Hp → VK → Prop} {f : F2} (hf : OpF X.K (fun x y H Q => r x [y] H Q) f) {σ : L2.St} {H : Hp} {Q : VK} (h : real X.K W (dMtL f po pe) σ H Q) :
    tBM X.K "list" r (realO X.K W po) (tCons (realO X.K W pe) tNil) σ H Q := by
  obtain ⟨g, ρ, M, F, O, q, w, A, p, hw, k⟩ := h
  refine ⟨g, ρ, M, F, O, _, w, A, p, hw, fun v H1 F1 O1 M1 d A1 s1 r1 ⟨⟨l, e⟩, q1⟩ => ⟨by subst e; exact vw_tyL A1 r1, ?_⟩⟩
  refine ⟨g, ρ, M1, F1, O1, _, w, A1, q1, hw.mono s1, fun u H2 F2 O2 M2 y A2 s2 r2 q2 => ?_⟩
  exact hf g σ H2 ρ M2 F2 O2 d y v u _ Q A2 (r1.mono s2) r2 q2 fun z w3 H3 F3 O3 A3 s3 r3 q3 => k w3 H3 F3 O3 M2 z A3 ((s1.trans s2).trans s3) r3 q3
section
variable {K : PySem.W.Frag} {c : Value} {C D : Addr} {b : Bool} {n : Str}
end
theorem hu1 {A : Around} {k : Nat} (hr : Room k A) : A.units + 65 < cLine := by have := hr.un; omega
end
end Px
set_option Elab.async false
set_option linter.all false
set_option maxRecDepth 100000
namespace Px
open PySem PySem.Spec PyProof.Rows L2
section
variable {P : Program} {w : World} {K : PySem.W.Frag} {mg : Str → Option Value} {base : Heap} {k : Nat} {f : Addr} {fd : FuncData} {ps N : List Str}
end
structure Mk where
  c : Addr
  p : Addr
  q : Str
section
variable {P : Program} {w : World} {K : PySem.W.Frag} {mg mb : Str → Option Value} {k : Nat} {fa a : Addr} {fd : FuncData} {x : Str} {s₁ : Shared} {vs : List Value} {ns : List Int} {ms : List Mk}
end
end Px
set_option Elab.async false
set_option linter.all false
set_option maxRecDepth 100000
namespace Px
open PySem PySem.Spec PyProof.Rows L2
end Px
set_option Elab.async false
set_option linter.all false
set_option maxRecDepth 100000
namespace Px
open PySem PySem.Spec PyProof.Rows L2
end Px
set_option Elab.async false
set_option linter.all false
set_option maxRecDepth 100000
namespace Px
def fo (h z : Int) : Int := if 4 * h - z % (4 * h) < z % (4 * h) then 4 * h - z % (4 * h) else z % (4 * h)
def Per (d : Int) (f : Int → Bool) : Prop := 0 < d ∧ (∀ z, f (z + 4 * d) = f z) ∧ ∀ z, f (-z) = f z
theorem Per.mulN {d : Int} {f : Int → Bool} (h : Per d f) : ∀ (k : Nat) (z : Int), f (z + 4 * d * k) = f z
  | 0, z => by rw [show z + 4 * d * ((0 : Nat) : Int) = z by simp]
  | k + 1, z => by
    have e : z + 4 * d * ((k + 1 : Nat) : Int) = (z + 4 * d * k) + 4 * d := by
      rw [Int.natCast_succ, Int.mul_add]; omega
    rw [e, h.2.1, Per.mulN h k z]
theorem Per.mul {d : Int} {f : Int → Bool} (h : Per d f) (k z : Int) : f (z + 4 * d * k) = f z := by
  rcases Int.le_total 0 k with c | c
  · have e : k = (k.toNat : Int) := by omega
    rw [e]; exact h.mulN _ z
  · have e : k = -((-k).toNat : Int) := by omega
    have := h.mulN (-k).toNat (z + 4 * d * k)
    rw [← this]
    congr 1
    have e2 : ((-k).toNat : Int) = -k := by omega
    rw [e2, Int.mul_neg]; omega
theorem fo_cases (h z : Int) : (∃ k, fo h z = z + 4 * h * k) ∨ ∃ k, fo h z = -(z + 4 * h * k) := by
  have e := Int.emod_def z (4 * h)
  unfold fo
  split
  · right
    refine ⟨-(z / (4 * h)) - 1, ?_⟩
    rw [e, Int.mul_sub, Int.mul_neg]; omega
  · left
    refine ⟨-(z / (4 * h)), ?_⟩
    rw [e, Int.mul_neg]; omega
theorem Per.fo {d : Int} {f : Int → Bool} (h : Per d f) (z : Int) : f (fo d z) = f z := by
  rcases fo_cases d z with ⟨k, e⟩ | ⟨k, e⟩
  · rw [e, h.mul]
  · rw [e, h.2.2, h.mul]
theorem fo_nn {h z : Int} (hh : 0 < h) : 0 ≤ fo h z := by
  have := Int.emod_nonneg z (show 4 * h ≠ 0 by omega)
  have := Int.emod_lt_of_pos z (show 0 < 4 * h by omega)
  unfold fo; split <;> omega
theorem fo_le {h z : Int} (hh : 0 < h) : fo h z ≤ 2 * h := by
  unfold fo; split <;> omega
theorem Per.ext {h : Int} {f g : Int → Bool} (hf : Per h f) (hg : Per h g) (e : ∀ z, 0 ≤ z → z ≤ 2 * h → f z = g z) : f = g := funext fun z => by
  rw [← hf.fo z, ← hg.fo z]
  exact e _ (fo_nn hf.1) (fo_le hf.1)
theorem Per.up {d h : Int} {f : Int → Bool} (hf : Per d f) (h0 : 0 < h) (hd : d ∣ h) : Per h f := ⟨h0, fun z => by
  obtain ⟨k, rfl⟩ := hd
  rw [← Int.mul_assoc]
  exact hf.mul k z, hf.2.2⟩
def Least (d : Int) (f : Int → Bool) : Prop := Per d f ∧ ∀ e, Per e f → d ≤ e
theorem least_ex {h : Int} {f : Int → Bool} (hf : Per h f) : ∃ d, Least d f := by
  have key : ∀ (n : Nat), (∃ d, Per d f ∧ d.toNat ≤ n) → ∃ d, Least d f := by
    intro n
    induction n with
    | zero => rintro ⟨d, hd, hn⟩; have := hd.1; omega
    | succ n ih =>
      rintro ⟨d, hd, hn⟩
      by_cases c : ∃ e, Per e f ∧ e.toNat ≤ n
      · exact ih c
      · refine ⟨d, hd, fun e he => ?_⟩
        by_cases c2 : d ≤ e
        · exact c2
        · exfalso
          have := hd.1
          have := he.1
          exact c ⟨e, he, by omega⟩
  exact key _ ⟨h, hf, Nat.le_refl _⟩
open Classical in
noncomputable def lh (f : Int → Bool) : Int := if h : ∃ d, Least d f then Classical.choose h else 1
theorem lh_is {h : Int} {f : Int → Bool} (hf : Per h f) : Least (lh f) f := by
  have e := least_ex hf
  unfold lh
  rw [dif_pos e]
  exact Classical.choose_spec e
theorem lh_per {h : Int} {f : Int → Bool} (hf : Per h f) : Per (lh f) f := (lh_is hf).1
theorem lh_le {h : Int} {f : Int → Bool} (hf : Per h f) : lh f ≤ h := (lh_is hf).2 h hf
def Pri (q : Int) : Prop := 2 ≤ q ∧ ∀ r, 2 ≤ r → r ∣ q → r = q
end Px
set_option Elab.async false
set_option linter.all false
set_option maxRecDepth 100000
namespace Px
def stp (s : List (Int × Int) × Option Int) (i : Int) (b : Bool) : List (Int × Int) × Option Int := match b, s.2 with
  | true, none => (s.1, some i)
  | false, some k => (s.1 ++ [(k, i - 1)], none)
  | _, _ => s
def rs (f : Int → Bool) : Nat → List (Int × Int) × Option Int
  | 0 => ([], none)
  | n + 1 => stp (rs f n) n (f n)
def runs (f : Int → Bool) (n : Nat) : List (Int × Int) := (stp (rs f n) n false).1
def SwI (ss : List (Int × Int)) (z : Int) (k : Nat) (last : Int) : Prop := k ≤ ss.length ∧ (∀ i p, i < k → ss[i]? = some p → p.1 ≤ z ∧ p.2 ≤ last) ∧ (last = -1 ∨ ∃ i p, i < k ∧ ss[i]? = some p ∧ p.2 = last)
theorem SwI.up {ss : List (Int × Int)} {z y : Int} {k : Nat} {last : Int} (h : SwI ss z k last) (c : z ≤ y) : SwI ss y k last := ⟨h.1, fun i p hi e => by have := h.2.1 i p hi e; omega, h.2.2⟩
end Px
set_option Elab.async false
set_option linter.all false
set_option maxRecDepth 100000
namespace Px
open PySem PySem.Spec PyProof.Rows L2
end Px
set_option Elab.async false
set_option linter.all false
set_option maxRecDepth 100000
namespace Px
open PySem PySem.Spec PyProof.Rows L2
theorem MLe.trans {M1 M2 M3 : Mm} (h : MLe M1 M2) (k : MLe M2 M3) : MLe M1 M3 := fun a mo e => k a mo (h a mo e)
def sp__law_half (C : Cl) : PSp := fun ds M q _ => ar1 ds fun d => asDraw d M (∀ n : Int, 1 ≤ n → n ≤ 60 → q (.int n) M)
def rd__law_half (C : Cl) : PTS := (dSeq (dSet 1 (dL (dLst (dCons (dOp fAdd (dC (.int 1)) (dCall sp_take [] (dCons (dVar 0) (dCons (dC (.int 6)) dNil)))) (dCons (dOp fAdd (dC (.int 1)) (dCall sp_take [] (dCons (dVar 0) (dCons (dC (.int 12)) dNil)))) (dCons (dCall sp_pick [] (dCons (dVar 0) (dCons (dL (dLst (dCons (dC (.int 6)) (dCons (dC (.int 10)) (dCons (dC (.int 12)) (dCons (dC (.int 15)) (dCons (dC (.int 20)) (dCons (dC (.int 24)) (dCons (dC (.int 30)) (dCons (dC (.int 36)) dNil)))))))))) dNil))) dNil))))))
    (dRet (dCall sp_pick [] (dCons (dVar 0) (dCons (dOp fAdd (dVar 1) (dL (dLst (dCons (dOp fAdd (dC (.int 1)) (dCall sp_take [] (dCons (dVar 0) (dCons (dC (.int 60)) dNil)))) dNil)))) dNil)))))
theorem tk_of {n : Int} (h : 0 < n) (h' : n ≤ 10 ^ 20) : 0 < n ∧ n.natAbs.log2 < 9000 := ⟨h, SzB.log (m := 70) (SzB.of (by omega) (by omega))⟩
theorem sh__law_half (C : Cl) : Shows (sp__law_half C) 2 (rd__law_half C) := by
  intro ds M q e h
  obtain ⟨d, rfl, h⟩ := ar1_of h
  obtain ⟨a, rfl, hm, hq⟩ := asDraw_of h
  refine ⟨hm, tk_of (by decide) (by decide), fun k k0 k1 => ⟨hm, tk_of (by decide) (by decide), fun l l0 l1 => ⟨by simp, hm, ⟨by simp, by simp⟩, fun x hx => ?_⟩⟩⟩
  obtain ⟨n, rfl, n1, n2⟩ : ∃ n : Int, x = .int n ∧ 1 ≤ n ∧ n ≤ 36 := by
    simp only [List.mem_cons, List.not_mem_nil, or_false] at hx
    rcases hx with rfl | rfl | rfl | rfl | rfl | rfl | rfl | rfl <;> exact ⟨_, rfl, by decide, by decide⟩
  refine ⟨by simp, hm, tk_of (by decide) (by decide), fun t t0 t1 => ⟨by simp, by simp, hm, ⟨by simp, by simp⟩, fun y hy => ?_⟩⟩
  simp only [List.cons_append, List.nil_append, List.mem_cons, List.not_mem_nil, or_false] at hy
  rcases hy with rfl | rfl | rfl | rfl
  · exact ⟨M, MLe.refl _, hq _ (by omega) (by omega)⟩
  · exact ⟨M, MLe.refl _, hq _ (by omega) (by omega)⟩
  · exact ⟨M, MLe.refl _, hq _ (by omega) (by omega)⟩
  · exact ⟨M, MLe.refl _, hq _ (by omega) (by omega)⟩
def sp__law_halves (C : Cl) : PSp := fun ds M q _ => ar3 ds fun d x y => asDraw d M (asI x fun many => asI y fun most => (1 ≤ many ∧ many ≤ 6 ∧ 60 ≤ most ∧ most ≤ 1000) ∧ ∀ hs, HsOk hs → lcmL hs ≤ most → hs.length ≤ many → q (.lst (hs.map .int)) M)
def rd__law_halves (C : Cl) : PTS := (dSeq (dSetO 3 (dLst (dCons (dOp fMin2 (dCall (sp__law_half C) [] (dCons (dVar 0) dNil)) (dVar 2)) dNil)))
    (dSeq (dFor (iR1 (dCall sp_take [] (dCons (dVar 0) (dCons (dVar 1) dNil)))) (gNm 4) (dSeq (dSet 5 (dCall sp_pick [] (dCons (dVar 0) (dCons (dL (dLst (dCons (dCall (sp__law_half C) [] (dCons (dVar 0) dNil)) (dCons (dOp fMul (dOp fIx (dOwn 3) (dC (.int 0))) (dC (.int 2))) (dCons (dOp fIx (dOwn 3) (dNeg (dC (.int 1)))) dNil))))) dNil))))
    (dIfS (dAnd (dTst (dOp fLe (dVar 5) (dC (.int 1000)))) (dTst (dOp fLe (dCall (sp__law_lcm C) [] (dCons (dOp fAdd (dOwn 3) (dL (dLst (dCons (dVar 5) dNil)))) dNil)) (dVar 2)))) (dApp 3 (dVar 5)) dNext)))
    (dFrz 3 (dRet (dVar 3)))))
theorem lcmL_one {n : Int} (h : 0 < n) : lcmL [n] = n := by
  show lc 1 n = n
  unfold lc g0
  rw [Int.gcd_one_left]
  simp
theorem ixD {ns : List Int} {i : Int} {n : Int} {k : D → Prop} (h : L2.atI ns i = some n) (hk : k (.int n)) : fIx (.lst (ns.map .int)) (.int i) k := by
  refine ⟨.int n, ?_, hk⟩
  unfold L2.atI at h ⊢
  rw [List.length_map]
  cases c : ixN ns.length i with
  | none => rw [c] at h; cases h
  | some j =>
    rw [c] at h
    show (ns.map D.int)[j]? = _
    have h : ns[j]? = some n := h
    rw [List.getElem?_map, h]; rfl
theorem sh__law_halves (C : Cl) : Shows (sp__law_halves C) 6 (rd__law_halves C) := by
  intro ds M q e h
  obtain ⟨d, x, y, rfl, h⟩ := ar3_of h
  obtain ⟨a, rfl, hm, h⟩ := asDraw_of h
  obtain ⟨many, e1, h⟩ := asI_of h
  obtain ⟨most, e2, ⟨m1, m2, m3, m4⟩, hq⟩ := asI_of h
  subst e1 e2
  refine ⟨hm, fun n n1 n2 => ?_⟩
  refine ⟨by simp, ?_⟩
  have hmin : (if most < n then most else n) = n := if_neg (by omega)
  refine ⟨hm, tk_of (by omega) (by omega), fun k k0 k1 => ⟨by omega, by omega, ?_⟩⟩
  have hlen : (rngD 0 k.toNat).length = k.toNat := by unfold rngD; rw [List.length_map, List.length_range]
  refine forR_ix (fun j ρ M' => M' = M ∧ ∃ (l : List Int) (x4 x5 : Option Sv), ρ = [some (.val (.raw (.ref a))), some (.val (.int many)), some (.val (.int most)), some (.own ((n :: l).map .int)), x4, x5] ∧ l.length ≤ j ∧ lcmL (n :: l) ≤ most ∧ ∀ i ∈ n :: l, 1 ≤ i ∧ i ≤ 1000) _ 0 ?_ ?_ _ _
    ⟨rfl, [], none, none, by rw [hmin]; rfl, Nat.le_refl _, by rw [lcmL_one (by omega)]; omega, fun i hi => by rw [List.mem_singleton.mp hi]; omega⟩
  · rintro i d hd F hF ρ M' ⟨rfl, l, x4, x5, rfl, hl, hL, hp⟩
    have hi : i < (rngD 0 k.toNat).length := (List.getElem?_eq_some_iff.mp hd).1
    rw [hlen] at hi
    rw [Nat.zero_add] at hl
    have hlm : (n :: l).length ≤ 5 := by rw [List.length_cons]; omega
    obtain ⟨z, hz, hzm⟩ : ∃ z, L2.atI (n :: l) (-1) = some z ∧ z ∈ n :: l := by
      refine ⟨(n :: l).getLast (by simp), ?_, List.getLast_mem _⟩
      have := atI_last (n :: l).dropLast ((n :: l).getLast (by simp))
      rw [List.dropLast_concat_getLast] at this
      exact this
    have hzp := hp z hzm
    haveI : SzB 10 n := SzB.of (by omega) (by omega)
    refine ⟨hm, fun u u1 u2 => ?_⟩
    refine ixD (i := 0) (n := n) (show L2.atI (n :: l) 0 = some n from atI_nat (j := 0) rfl) ⟨(SzB.mulX inferInstance inferInstance), ?_⟩
    refine ixD (i := -1) (n := z) hz ⟨by simp, hm, ⟨by simp, by simp⟩, fun y hy => ?_⟩
    obtain ⟨v, rfl, v1, v2⟩ : ∃ v : Int, y = .int v ∧ 1 ≤ v ∧ v ≤ 2000 := by
      simp only [List.mem_cons, List.not_mem_nil, or_false] at hy
      rcases hy with rfl | rfl | rfl
      · exact ⟨_, rfl, by omega, by omega⟩
      · exact ⟨_, rfl, by omega, by omega⟩
      · exact ⟨_, rfl, by omega, by omega⟩
    dsimp only [dSeq, dInN, dPutN, dGetN, dNewN, dCallL, dCallLK, dRetL, dRetOwn, dNext, dSet, dSetO, dRet, dRetN, dDrop, dIfS, dFor, dPar, dPar3, dParL2, dParL3, dAsg, dFrz, dIf, dTst, dOp, dVar, dOwn, dC, dB1, dG1, dL, dLst, dCons, dNil, dTup, dCall, dCallK, dAnd, dOr, dNot, dAndV, dOrV, dNotV, dNeg, dChain, dNever, dNeverS, dRaise, dYes, gNm, gsCons, gsNil, gTp, gt, st, fAdd, fSub, fMul, fDiv, fMod, fPow, fShl, fShr, fCmp, fEq, fNe, fEqS, fNeS, fIs, fIsNot, fLen, fMin, fMax, fMin2, fMax2, fAll, fAny, fAbs, fTup, fRepr, fIx, atD, isB, ls2, ls3, startR, ar1, ar2, ar3, ar4, asI, asT, asL, asDraw, sp_take, sp_pick, sp_begin, List.map, List.append, List.replicate, List.length, List.cons_append, List.nil_append, Nat.sub_self, Nat.reduceSub, Nat.reduceAdd, dApp, isOwn, appR, dSl, dPt, dNo, slR, asIn, List.map_cons, List.map_nil]
    by_cases c1 : v ≤ 1000
    · refine itT (decide_eq_true c1) ⟨by simp, by simp; simp at hlm; omega, ?_⟩
      have hok : SmOk (n :: l ++ [v]) := ⟨by simp; simp at hlm; omega, fun i hi => by
        rcases List.mem_append.mp hi with hi | hi
        · exact hp i hi
        · rw [List.mem_singleton.mp hi]; omega⟩
      refine ⟨n :: l ++ [v], .inl (by rw [List.map_append]; rfl), hok, fun d1 h1 => ?_⟩
      subst h1
      by_cases c2 : lcmL (n :: l ++ [v]) ≤ most
      · refine itT (decide_eq_true c2) ⟨trivial, by rw [List.length_map]; omega, hF _ _ ⟨rfl, l ++ [v], some (.val d), some (.val (.int v)), by rw [show n :: (l ++ [v]) = n :: l ++ [v] from rfl, List.map_append]; rfl, by simp; omega, c2, hok.2⟩⟩
      · exact itF (decide_eq_false c2) (hF _ _ ⟨rfl, l, some (.val d), some (.val (.int v)), rfl, by omega, hL, hp⟩)
    · exact itF (decide_eq_false c1) (hF _ _ ⟨rfl, l, some (.val d), some (.val (.int v)), rfl, by omega, hL, hp⟩)
  · rintro ρ M' ⟨rfl, l, x4, x5, rfl, hl, hL, hp⟩
    rw [hlen] at hl
    exact ⟨M', MLe.refl _, hq (n :: l) ⟨by simp, by simp; omega, hp⟩ hL (by simp; omega)⟩
end Px
set_option Elab.async false
set_option linter.all false
set_option maxRecDepth 100000
namespace Px
open PySem PySem.Spec PyProof.Rows L2
theorem rngD_at {lo : Int} {n i : Nat} {d : D} (h : (rngD lo n)[i]? = some d) : i < n ∧ d = .int (lo + i) := by
  have hi := (List.getElem?_eq_some_iff.mp h).1
  unfold rngD at h hi
  rw [List.length_map, List.length_range] at hi
  rw [List.getElem?_map, List.getElem?_range hi] at h
  cases h
  exact ⟨hi, rfl⟩
end Px
set_option Elab.async false
set_option linter.all false
set_option maxRecDepth 100000
namespace Px
open PySem PySem.Spec PyProof.Rows L2
def pcD (p : Int × Int) : D := .tup [.int (p.1 / 2), .bl (decide (p.1 % 2 = 0)), .int ((p.2 + 1) / 2), .bl (decide (p.2 % 2 = 0))]
theorem rngD_len {lo : Int} {n : Nat} : (rngD lo n).length = n := by unfold rngD; rw [List.length_map, List.length_range]
theorem p200 : (10 : Int) ^ 40 < 2 ^ 200 := by decide
theorem mul_small {i j : Int} (h0 : -1000000000 ≤ i) (h1 : i ≤ 1000000000) (h2 : -(10 ^ 40) ≤ j) (h3 : j ≤ 10 ^ 40) : CMulX i j :=
  have z := p200
  (SzB.of (n := 40) (i := i) (by omega) (by omega)).mulX (SzB.of (n := 200) (i := j) (by omega) (by omega)) (by decide)
end Px
set_option Elab.async false
set_option linter.all false
set_option maxRecDepth 100000
namespace Px
open PySem PySem.Spec PyProof.Rows L2
def dParF2 (i j : Nat) (pb : PTE) : PTS := fun w P ρ M => pb w ρ M fun b M' => P.nx (st (st ρ i (.own [])) j (.val b)) M'
section
variable {X : Cx} {W : WX} {pb : PTE}
theorem ds_parF2 (i j : Nat) {x y : Str} {b : Expr} {px py pt p2 : Pos} {kt k2 pt2} {pos : Pos} (hc : X.calm = true) (hN : X.N.Nodup) (hb : DE X W b pb) (hi : X.N[i]? = some x := by rfl) (hj : X.N[j]? = some y := by rfl)
    (hij : i ≠ j := by decide) (hx : X.env.scope.names.lookup x = some .local := by rfl) (hy : X.env.scope.names.lookup y = some .local := by rfl)
    (h1 : starEach [.List [] p2, b] X.env = (false, eval (.List [] p2) X.env) :: starEach [b] X.env := by rfl) (h2 : starEach [b] X.env = (false, eval b X.env) :: starEach [] X.env := by rfl)
    (hw : swappedStores [.Tuple [.Name x px, .Name y py] kt pt] (.Tuple [.List [] p2, b] k2 pt2) X.env = pure (some [x, y]) := by rfl)
    (hs : swapsWithSole [.Tuple [.Name x px, .Name y py] kt pt] (.Tuple [.List [] p2, b] k2 pt2) pos.line X.env = pure false := by rfl) :
    DS X W (.Assign [.Tuple [.Name x px, .Name y py] kt pt] (.Tuple [.List [] p2, b] k2 pt2) pos) (dParF2 i j pb) :=
  ps_imp (ps_par hc hN hi hj hij hx hy (pa_cons (pe_lst pa_nil) (pa_cons hb pa_nil h2) h1) hw hs) fun D σ H ⟨g, ρ, M, F, O, P, w, A, h, hw, k1, _⟩ => by
    refine ⟨by show 0 ≤ sizeLine; decide, fun t ht => ?_⟩
    have f1 := A.f0 ht
    have o1 := A.o0 ht
    have g1 := A.g0 ht
    have A2 := A.laid (o := .lst []) ht
    refine ⟨_, ρ, M, F, O, _, w, A2.here, h, hw.here A2, fun v2 H3 F3 O3 M3 d2 B3 s3 r2 q2 => ?_⟩
    obtain ⟨e3, f3, o3⟩ := kept_at A2 (D := t) (o := .lst []) upd_same f1 o1 B3
    have A3 := A2.there B3
    exact ⟨.ref t, v2, rfl, k1 _ _ _ M3 F3 _ ((A3.putOwn (i := i) e3 (l := []) rfl f3 o3 g1).put (i := j) r2) s3 q2⟩
end
end Px
set_option Elab.async false
set_option linter.all false
set_option maxRecDepth 100000
namespace Px
open PySem PySem.Spec PyProof.Rows L2
section
variable {X : Cx} {W : WX} {k n : Nat} {f C : Addr} {fd : FuncData} {ps : List Str} {sp : PSp} {pos : Pos} {a b : Expr} {pa pb : PTE}
end
end Px
set_option Elab.async false
set_option linter.all false
set_option maxRecDepth 100000
namespace Px
open PySem PySem.Spec PyProof.Rows L2
section
variable {X : Cx} {W : WX} {k n : Nat} {f C : Addr} {fd : FuncData} {ps : List Str} {sp : PSp} {pos : Pos} {a b : Expr} {pa pb : PTE}
end
end Px
set_option Elab.async false
set_option linter.all false
set_option maxRecDepth 100000
namespace Px
open PySem PySem.Spec PyProof.Rows L2
structure IsC (K : PySem.W.Frag) (C : Addr) : Prop where
  own : PySem.W.kitOne K (.ref C) (.ref C) = some true
  tys : ∀ t ∈ tys, PySem.W.kitOne K (.type t) (.ref C) = some false
  cl : Cls K C
  ha : PySem.W.findIn K (.ref C) "__class__" = some (some (.builtin "object.__class__"))
  hn : PySem.W.specialIn K (.builtin "object.__class__") "__get__" = some (some (.builtin "getset_descriptor.__get__"))
  tk : PySem.W.takesIn K (.builtin "object.__class__") = some true
  mro : PySem.W.mroIn K C (.type "object") = some true
section
variable {X : Cx} {W : WX} {C : Addr} {a : Expr} {pa : PTE} {p p2 pos : Pos} {x2 : Str}
end
end Px
set_option Elab.async false
set_option linter.all false
set_option maxRecDepth 100000
namespace Px
open PySem PySem.Spec PyProof.Rows L2
structure MethT (K : PySem.W.Frag) (C : Addr) (m qual : Str) (stm : Stmt) (ps : List Str) (a : Addr) (fd : FuncData) : Prop where
  f : L2.Fun K m qual stm a fd
  b : Binds K fd ps []
  at_ : PySem.W.findIn K (.ref C) m = some (some (.ref a))
  fn : PySem.W.isFn K (.ref a) = true
structure ClsT (K : PySem.W.Frag) (mg : Str → Option Value) (x : Str) (C : Addr) : Prop where
  g : mg x = some (.ref C)
  makes : PySem.W.makesIn K C = true
  kp : PySem.W.keepIn K (.ref C) = true
  first : PySem.W.selfFirst K C = true
  is : IsC K C
section
variable {K : PySem.W.Frag} {mg : Str → Option Value} {x m qual : Str} {C a : Addr} {stm : Stmt} {ps : List Str} {fd : FuncData}
theorem MethT.meth (t : MethT K C m qual stm ps a fd) : Meth K C m a := ⟨t.at_, t.fn, t.f.kp⟩
theorem ClsT.maker (t : ClsT K mg x C) (i : MethT K C "__init__" qual stm ps a fd) : L2.Mk K C a := ⟨t.makes, i.at_, i.fn, t.kp⟩
theorem ClsT.cl (t : ClsT K mg x C) : Cls K C := t.is.cl
end
end Px
set_option Elab.async false
set_option linter.all false
set_option maxRecDepth 100000
namespace Px
open PySem PySem.Spec PyProof.Rows L2
def fListC : G1 := fun x k => match x with
  | .lst l => k l
  | .tup l => k l
  | _ => False
section
variable {X : Cx} {W : WX} {a : Expr} {pa : PTE} {p pos : Pos}
theorem dl_listc (hg : Gl X "list") (hm : X.mg "list" = none) (ha : DO X W a pa) (he : starEach [a] X.env = (false, eval a X.env) :: starEach [] X.env := by rfl) (hpl : (backTo pos (starEach [] X.env)).any (·.1) = false := by rfl) :
    DL X W (.Call (.Name "list" p) [a] [] pos) (dG1 fListC pa) := dl_t1 call_list_of (f := fListC) (fun g σ H ρ M F O x v k Q A rx h c => by
    cases x with
    | lst l =>
      obtain ⟨q, xs, e1, h1, rl⟩ := rx.lst A
      exact ⟨q, xs, by rw [e1], .inl (.inl (.inl h1)), fun t ht => c l t xs ht rl h⟩
    | tup l =>
      obtain ⟨q, xs, e1, h1, rl⟩ := rx.tupR
      exact ⟨q, xs, by rw [e1], .inr (same_t A.sub h1), fun t ht => c l t xs ht rl h⟩
    | _ => exact (show False from h).elim) hg hm (by decide +kernel) ha (by decide) (by decide) he hpl
end
end Px
set_option Elab.async false
set_option linter.all false
set_option maxRecDepth 100000
namespace Px
open PySem PySem.Spec PyProof.Rows L2
def pcsD (sp : List (Int × Int)) : List D := sp.map pcD
end Px
set_option Elab.async false
set_option linter.all false
set_option maxRecDepth 100000
namespace Px
open PySem PySem.Spec PyProof.Rows L2
theorem enum_range {k : Nat} {d : D} {i : Nat} (h : (rngD 0 k)[i]? = some d) : i < k ∧ d = .int (i : Nat) := by
  obtain ⟨a, b⟩ := rngD_at h
  exact ⟨a, by rw [b, Int.zero_add]⟩
end Px
set_option Elab.async false
set_option linter.all false
set_option maxRecDepth 100000
namespace Px
open PySem PySem.Spec PyProof.Rows L2
def AllPri (n : Int) (ps : List Int) : Prop := (∀ q, Pri q → q ∣ n → q ∈ ps) ∧ ∀ p ∈ ps, 2 ≤ p ∧ p ≤ n
structure PrI (n left p : Int) (ps : List Int) : Prop where
  l0 : 1 ≤ left
  ln : left ∣ n
  p0 : 2 ≤ p
  all : ∀ q, Pri q → q ∣ n → q ∈ ps ∨ q ∣ left
  least : ∀ q, Pri q → q ∣ left → p ≤ q
  two : ∀ x ∈ ps, 2 ≤ x ∧ x ≤ n
  len : (ps.length : Int) ≤ p - 2
theorem PrI.start {n : Int} (h : 1 ≤ n) : PrI n n 2 [] := ⟨h, Int.dvd_refl _, by omega, fun q _ h => .inr h, fun q h _ => h.1, fun x h => (by cases h), by decide⟩
theorem PrI.fin {n left p : Int} {ps : List Int} (h : PrI n left p ps) (c : ¬ p ≤ left) : AllPri n ps := ⟨fun q hq hd => by
  rcases h.all q hq hd with h1 | h1
  · exact h1
  · have := Int.le_of_dvd (by have := h.l0; omega) h1
    have := h.least q hq h1
    omega, h.two⟩
end Px
set_option Elab.async false
set_option linter.all false
set_option maxRecDepth 100000
namespace Px
open PySem PySem.Spec PyProof.Rows L2
section
variable {K : PySem.W.Frag} {F : Hp}
theorem RpL.era : ∀ {ds : List D} {xs : List V} (i : Nat), RpL K F ds xs → RpL K F (ds.eraseIdx i) (xs.eraseIdx i)
  | [], _, _, h => by rw [h]; exact rfl
  | _ :: ds, _, 0, ⟨x, r, e1, _, t⟩ => by rw [e1]; exact t
  | _ :: ds, _, i + 1, ⟨x, r, e1, h, t⟩ => by rw [e1]; exact ⟨x, _, rfl, h, RpL.era i t⟩
theorem RpL.one {d : D} {x : V} (h : Rp K F d x) : RpL K F [d] [x] := ⟨x, [], rfl, h, rfl⟩
theorem RpL.rev : ∀ {ds : List D} {xs : List V}, RpL K F ds xs → RpL K F ds.reverse xs.reverse
  | [], _, h => by rw [h]; exact rfl
  | _ :: ds, _, ⟨x, r, e1, h, t⟩ => by rw [e1, List.reverse_cons, List.reverse_cons]; exact (RpL.rev t).app (RpL.one h)
end
def chgR (ρ : Rho) (i : Nat) (f : List D → Option (List D)) (k : Rho → Prop) : Prop := match gt ρ i with | some (.own l) => l.length < 1000000 ∧ ∃ l', f l = some l' ∧ k (st ρ i (.own l')) | _ => False
theorem chgR_of {ρ : Rho} {i : Nat} {f : List D → Option (List D)} {k : Rho → Prop} (h : chgR ρ i f k) : ∃ l l', gt ρ i = some (.own l) ∧ l.length < 1000000 ∧ f l = some l' ∧ k (st ρ i (.own l')) := by
  unfold chgR at h
  split at h
  · obtain ⟨z, l', e, q⟩ := h
    exact ⟨_, l', by assumption, z, e, q⟩
  · exact h.elim
def setF (d x : D) (l : List D) : Option (List D) := match d with | .int n => (ixN l.length n).map fun j => l.set j x | _ => none
def dSetA (i : Nat) (pe pi : PTE) : PTS := fun w P ρ M => isOwn ρ i ∧ pe w ρ M fun x M1 => pi w ρ M1 fun d M2 => chgR ρ i (setF d x) fun ρ' => P.nx ρ' M2
section
variable {X : Cx} {W : WX} {e f : Expr} {pe pf : PTE} {pos p1 p2 p3 : Pos}
theorem ds_setA (i : Nat) {x : Str} {pt : Pos} (he : DE X W e pe) (hf : DE X W f pf) (hN : X.N[i]? = some x := by rfl) (hv : Vis X.env.scope x := by first | exact Or.inl rfl | exact Or.inr (Or.inl rfl) | exact Or.inr (Or.inr rfl)) (hd : (x == ("__debug__" : Str)) = false := by decide)
    (hcd : (x == ("__classdict__" : Str)) = false := by decide) (hs : swapsWithSole [.Subscript (.Name x p1) f pt] e pos.line X.env = pure false := by rfl) (hw : swappedStores [.Subscript (.Name x p1) f pt] e X.env = pure none := by rfl)
    (hA : ∀ v, assign (.Subscript (.Name x p1) f pt) X.env v = (do
      let ov ← holding [v] (eval (.Name x p1) X.env)
      let iv ← holding [v, ov] (eval f X.env)
      standAt pt
      holding [v, ov, iv] (setItem ov iv v)
      release [v, ov, iv] []) := by intro _; rfl) : DS X W (.Assign [.Subscript (.Name x p1) f pt] e pos) (dSetA i pe pf) := by
  refine ps_imp (ps_asg he (pg_sub (pv i hN hv hd hcd) hf set_list hA) hs hw) fun D σ H ⟨g, ρ, M, F, O, P, w, A, ⟨h0, h⟩, hw, k1, _⟩ => ?_
  obtain ⟨l0, e0⟩ := isOwn_of h0
  obtain ⟨v, hv', l, xs, rfl, hl, rl, hO⟩ := A.sl i _ e0
  refine ⟨g, ρ, M, F, O, _, w, A, h, hw, fun u H1 F1 O1 M1 dv A1 s1 r1 q1 => ⟨.ref l, hv', g, ρ, M1, F1, O1, _, w, A1, q1, hw.mono s1, fun y H2 F2 O2 M2 d A2 s2 r2 q2 => ?_⟩⟩
  obtain ⟨l1, l2, e1, hz, ef, q3⟩ := chgR_of q2
  obtain ⟨v2, hv2, l3, ys, ev, hl2, rl2, hO2⟩ := A2.sl i _ e1
  rw [hv'] at hv2
  cases hv2
  cases ev
  unfold setF at ef
  split at ef
  · rename_i n
    obtain ⟨j, ej, e2⟩ := Option.map_eq_some_iff.mp ef
    subst e2
    refine ⟨l, ys, n, j, rfl, show y = V.int n from r2, hl2, by rw [← rl2.len]; exact ej, ?_⟩
    exact k1 _ _ _ _ F2 O2 (A2.chg (xs := ys) e1 hv' hO2 (rl2.set j (r1.mono s2))) (s1.trans s2) q3
  · cases ef
def fCatL : D → D → (List D → Prop) → Prop
  | .lst a, .lst b, k => a.length + b.length ≤ 1000000 ∧ k (a ++ b)
  | _, _, _ => False
def dG2 (f : D → D → (List D → Prop) → Prop) (pa pb : PTE) : PTA := fun w ρ M q => pa w ρ M fun x M1 => pb w ρ M1 fun y M2 => f x y fun z => q z M2
theorem dl_cat (ha : DO X W e pe) (hb : DO X W f pf) : DL X W (.BinOp e .Add f pos) (dG2 fCatL pe pf) := pe_imp (pe_op op_cat ha hb) fun σ H Q ⟨g, ρ, M, F, O, q, w, A, p, hw, k⟩ =>
  ⟨g, ρ, M, F, O, _, w, A, p, hw, fun v H1 F1 O1 M1 x A1 s1 r1 q1 => ⟨g, ρ, M1, F1, O1, _, w, A1, q1, hw.mono s1, fun u H2 F2 O2 M2 y A2 s2 r2 q2 => by
    have r1' := r1.mono s2
    unfold fCatL at q2
    split at q2
    · obtain ⟨l, xs, e1, h1, t1⟩ := r1'.lst A2
      obtain ⟨b, ys, e2, h2, t2⟩ := r2.lst A2
      refine ⟨l, b, xs, ys, e1, e2, h1, h2, by rw [← t1.len, ← t2.len]; exact line_big q2.1, fun p hp => ?_⟩
      exact k p (xs ++ ys) _ F2 O2 M2 _ (A2.laid hp) (s1.trans s2) upd_same (t1.app t2) (A2.f0 hp) (A2.o0 hp) (A2.g0 hp) q2.2
    · exact q2.elim⟩⟩
def fRev : G1 := fun x k => match x with | .lst l => k l.reverse | _ => False
theorem dl_rev {n : Nat} (ha : DO X W e pe) : DL X W (.Subscript e (.Slice none none (some (.UnaryOp .USub (.Constant (.int 1) n p1) p2)) p3) pos) (dG1 fRev pe) := pe_imp (pe_revL ha) fun σ H Q ⟨g, ρ, M, F, O, q, w, A, p, hw, k⟩ =>
  ⟨g, ρ, M, F, O, _, w, A, p, hw, fun v H1 F1 O1 M1 x A1 s1 r1 q1 => by
    unfold fRev at q1
    split at q1
    · obtain ⟨l, xs, e1, h1, t1⟩ := r1.lst A1
      exact ⟨l, xs, e1, .inl (.inl h1), fun p hp => k p xs.reverse _ F1 O1 M1 _ (A1.laid hp) s1 upd_same t1.rev (A1.f0 hp) (A1.o0 hp) (A1.g0 hp) q1⟩
    · exact q1.elim⟩
end
end Px
set_option Elab.async false
set_option linter.all false
set_option maxRecDepth 100000
namespace Px
open PySem PySem.Spec PyProof.Rows L2
section
variable {P : Program} {w : World} {K : PySem.W.Frag} {mg : Str → Option Value} {base : Heap} {k : Nat} {f : Addr} {fd : FuncData} {ps N : List Str} {dvs : List V}
theorem FunD.gok {x qual : Str} {stm : Stmt} {sp : Sp} (Fn : L2.FunD K x qual (defArgs stm) (defBody stm) (defScope stm) dvs [] f fd) (S : FnScope N ps (defScope stm)) (hn : ∀ vs H Q E, sp vs H Q E → vs.length = ps.length)
    (hbody : ∀ (cdv : Value) (A : Around) (outer : List Env) (s : Shared) (H : Hp) (vs : List V) (Q : VK) (E : XK), Room k (A.deeper (envOfC qual (defScope stm) s.heap.objs.size f cdv)) → A.guards = some [] → sp vs H Q E →
      ∃ t : TS, PSs (cxOf (L2.CX P w) P w K mg base N qual (defScope stm) f cdv A outer s H E) (defBody stm) t ∧ t { nx := fun _ H' => Q .non H', rt := Q } (L2.start N vs) H) :
    FnG P w K mg base (k + 1) f fd ps sp := by
  obtain ⟨oc, od, dV, kV, doc, pm, an, cdv, ct, osl, rfl, lk, hcd, _, _⟩ := Fn.ex
  refine ⟨hn, fun A outer s H args us vs Q E hr hG e0 hb r hsp => ?_⟩
  have hl : vs.length = ps.length := hn _ _ _ _ hsp
  have KX : K.In s.heap := e0.mod.kin.keeps fun b o e => (e0.bs b o e).1
  have lim : s.heap.NoLimit := e0.mod.nolimit.keeps fun b o e => (e0.bs b o e).1
  have kinds : ∀ y ∈ ps.zip us, (defScope stm).names.lookup y.1 = some .local ∨ ((defScope stm).names.lookup y.1 = some .cell ∧ ((cellsFrom (s.heap.objs.size + 1) (defScope stm).names []).lookup y.1).isSome = true) := by
    rintro ⟨n, v⟩ hy
    rcases S.par n (List.of_mem_zip hy).1 with q | q
    · exact .inl q
    · exact .inr ⟨q, PySem.W.cellsFrom_some _ _ _ (.inl q)⟩
  refine codeAny_call_function hr.depth (KX _ _ lk) rfl S.co S.gen rfl (PySem.W.codeRec_of KX hcd) (hb _ _ _ _ ?_)
  refine wpAny_newFunctionEnv_cells S.kind kinds fun env he s1 x => ?_
  subst he
  refine ⟨lim.keeps x.toInCall.keep, codeAny_func ?_⟩
  obtain ⟨t, ht, hq⟩ := hbody cdv A outer s H vs Q E (hr.deeper _) hG hsp
  have I := inv_start (CX := L2.CX P w) (E := E) (qual := qual) (f := f) (cd := cdv) (A := A) S hr.hd e0 hl r x
  refine wpAny_mono (ht.run [] s1 (L2.start N vs) H { nx := fun _ H' => Q .non H', rt := Q } I hq) (fun fl s' hs => ?_) fun e s' hs => hs
  cases fl with
  | ret u =>
    obtain ⟨v, σ', H', J, rv, q⟩ := hs
    exact ⟨v, H', J.os, J.bare, J.base, J.hok, rv, q⟩
  | next =>
    obtain ⟨σ', H', J, q⟩ := hs
    exact ⟨.non, H', J.os, J.bare, J.base, J.hok, rfl, q⟩
  | brk =>
    obtain ⟨_, _, _, q⟩ := hs
    exact q.elim
  | cont =>
    obtain ⟨_, _, _, q⟩ := hs
    exact q.elim
theorem FunD.pok {x qual : Str} {stm : Stmt} {n : Nat} {sp : PSp} {p : PTS} (Fn : L2.FunD K x qual (defArgs stm) (defBody stm) (defScope stm) dvs [] f fd) (S : FnScope N ps (defScope stm)) (hn : ps.length = n) (hs : Shows sp N.length p)
    (hbody : ∀ (cdv : Value) (A : Around) (outer : List Env) (s : Shared) (H : Hp) (E : XK), Room k (A.deeper (envOfC qual (defScope stm) s.heap.objs.size f cdv)) → A.guards = some [] →
      DSs (cxOf (L2.CX P w) P w K mg base N qual (defScope stm) f cdv A outer s H E) (WE E) (defBody stm) p) :
    FnG P w K mg base (k + 1) f fd ps (toSp K n sp) := by
  refine FunD.gok Fn S (fun vs H Q E h => by rw [toSp_len h, hn]) fun cdv A outer s H vs Q E hr hG hsp => ⟨_, hbody cdv A outer s H E hr hG, ?_⟩
  obtain ⟨g, F, M, O, ds, q, e, _, A0, rp, hsp, hQ, hE⟩ := hsp
  refine ⟨_, _, _, _, _, _, _, A0.enter (N := N) rp, hs ds M q e hsp, ?_, ?_, ?_, ?_, ?_, ?_⟩
  · intro cls dd σ' H' ρ' M' F' O' fs A2 s2 x2 ⟨M2, h1, h2⟩
    exact hE cls dd H' F' _ M2 fs (A2.leave h1) x2 h2
  · intro σ' H' ρ' M' F' O' A2 s2 ⟨M2, h1, h2⟩
    exact hQ .non H' F' _ M2 .non (A2.leave h1) rfl h2
  · intro v σ' H' ρ' M' F' O' d A2 s2 r2 ⟨M2, h1, h2⟩
    exact hQ v H' F' _ M2 d (A2.leave h1) r2 h2
  · intro σ' H' ρ' M' F' O' A2 s2 z; exact z.elim
  · intro σ' H' ρ' M' F' O' A2 s2 z; exact z.elim
  · intro a xs σ' H' ρ' M' F' O' ds A2 s2 e1 e2 e3 e4 e5 z; exact z.elim
end
structure DefV (K : PySem.W.Frag) (mg : Str → Option Value) (x : Str) (stm : Stmt) (ps : List Str) (dvs : List V) (a : Addr) (fd : FuncData) : Prop where
  f : L2.FunD K x x (defArgs stm) (defBody stm) (defScope stm) dvs [] a fd
  b : Binds K fd ps []
  bd : ∃ ds, Vals dvs ds ∧ Binds K fd ps ds
  g : mg x = some (.ref a)
section
variable {K : PySem.W.Frag} {x qual : Str} {params : Arguments} {body : List Stmt} {scope : Scope} {dvs : List V} {f : Addr} {fd : FuncData} {ps : List Str}
end
section
variable {K : PySem.W.Frag} {f T : Addr} {x : Str} {stm : Stmt} {oc kV doc pm cdv ct : Value} {od an : Option Addr} {osl : Array (Option Value)}
end
section
variable {X : Cx} {W : WX} {k n : Nat} {f : Addr} {fd : FuncData} {ps : List Str} {sp : PSp} {x : Str} {p pos : Pos} {e : Expr} {es : List Expr} {pl : PTA} {dd : List D} {dvs : List V}
end
section
variable {X : Cx} {W : WX} {pa pb : PTE} {pl : PTA}
end
def fIsBl (neg : Bool) : F2
  | .bl a, .bl b, k => k (.bl (xor neg (decide (a = b))))
  | _, _, _ => False
section
variable {X : Cx} {W : WX} {K : PySem.W.Frag} {a b : Expr} {pa pb : PTE} {pos : Pos}
theorem opf_isBl : OpF K (fun x y H Q => ∃ a b, x = .bl a ∧ y = .bl b ∧ Q (.bl (decide (a = b))) H) (fIsBl false) := by
  intro g σ H ρ M F O x y v u k Q A rx ry h c
  unfold fIsBl at h
  split at h
  · rename_i a b
    refine ⟨a, b, rx.bl, ry.bl, ?_⟩
    rw [Bool.false_xor] at h
    exact c (.bl (decide (a = b))) _ H F O A (Same.refl F) rfl h
  · exact h.elim
theorem opf_isntBl : OpF K (fun x y H Q => ∃ a b, x = .bl a ∧ y = .bl b ∧ Q (.bl (!decide (a = b))) H) (fIsBl true) := by
  intro g σ H ρ M F O x y v u k Q A rx ry h c
  unfold fIsBl at h
  split at h
  · rename_i a b
    refine ⟨a, b, rx.bl, ry.bl, ?_⟩
    rw [Bool.true_xor] at h
    exact c (.bl (!decide (a = b))) _ H F O A (Same.refl F) rfl h
  · exact h.elim
theorem de_isBl (ha : DO X W a pa) (hb : DO X W b pb) : DE X W (.Compare a [.Is] [b] pos) (dOp (fIsBl false) pa pb) := de_cmp op_is_bl opf_isBl ha hb (nomark _)
theorem dt_isntBl (ha : DO X W a pa) (hb : DO X W b pb) : DT X W (.Compare a [.IsNot] [b] pos) (dTst (dOp (fIsBl true) pa pb)) := dt_cmp op_isnot_bl opf_isntBl ha hb (nomark _)
end
end Px
set_option Elab.async false
set_option linter.all false
set_option maxRecDepth 100000
namespace Px
open PySem PySem.Spec PyProof.Rows PySem.W PySem.Calls
section
variable {prog : Program} {w : World} {A : Around} {E : Value → Shared → Prop} {h : Heap} {g : Array GenState} {d : Drawn} {t : Nat} {os : OsState}
variable {nm q : Str} {C N : Addr} {bs bm : List Value} {hdct : Bool} {sn : List Str} {sub : List Value} {ab : Bool} {col : Option Bool} {dd : Option Addr} {k0 k1 k2 k3 k5 : Option Value}
theorem call_vw {u e t0 : Addr} {rest : List Value} {Q : Value → Shared → Prop}
    (hC : h.get? C = some (excClassObj nm q C N bs bm hdct sn sub ab col dd k0 k1 k2 k3 k5 "ValueError.__new__")) (he : h.get? e = some (HandSPX.excO C t0)) (hu : h.get? u = some (kxs_mw "ValueError.__init__" e)) (hrest : rest.length ≤ sizeLine)
    (hq : ∀ h' t1, (∀ b o, b ≠ e → h.get? b = some o → h'.get? b = some o) → h'.get? e = some (HandSPX.excO C t1) → Q .none ⟨h', g, d, t, os⟩) :
    wpAny (model prog w) A (call (.ref u) rest) Q E ⟨h, g, d, t, os⟩ := by
  refine wpAny_call (codeAny_of_tree ?_)
  show wpAny _ A.in1 (callAny (.ref u) ⟨rest, []⟩) _ _ _
  simp only [callAny]
  refine wpAny_bind (wpAny_load hu ?_)
  simp only [kxs_mw, show (Value.type "method-wrapper" == Value.type "method" || Value.type "method-wrapper" == Value.type "builtin_function_or_method" || Value.type "method-wrapper" == Value.type "method-wrapper") = true by decide, if_true]
  refine KFB.if_so (by decide) ?_
  refine wpAny_bind (check_bound_init F.excBase_ValueError.toExcCallFacts hC he rfl ?_)
  refine wpAny_bind (wpAny_pure (wpAny_pure ?_))
  refine ⟨plainId_quiet F.excBase_ValueError.init.plain _, codeAny_builtin F.excBase_ValueError.initEntry ?_⟩
  exact exc_init_tree (cls := .ref C) (t0 := t0) (dv := none) (c2 := .none) (c3 := .none) (b4 := .bool false) he hrest fun h' k e' _ => hq h' _ k e'
end
structure InitA (P : Program) (K : Frag) (C fI : Addr) (x f : Str) : Prop where
  sup : ks_superIn K C C "__init__" = some (some (.builtin "ValueError.__init__"))
  hB : subIn K (.ref C) (.type "ValueError") = some true
  mro : mroIn K C (.ref C) = some true
  opq : nsIn K cStatics "thirdparty.any" = some none
  no : findIn K (.ref C) f = some none
  top : (P.main.scope.names.lookup ("super" : Str)).isSome = false
  ex : ∃ (oc ct dV kV doc pm : Value) (od an : Option Addr) (cda cc : Addr) (osl : Array (Option Value)) (qual : Str) (params : Arguments) (scope : Scope) (msg : Str) (j : Nat) (p0 p1 p2 p3 p4 p5 p6 p7 p8 p9 : Pos) (vs : Array Value) (file : Str) (tf : Tok) (ccl cl : Value) (cdd cld : Option Addr) (ccs csl : Array (Option Value)) (ar : Arg),
    K.lookup fI = some ⟨oc, od, .func (ksFn "__init__" qual params [.Expr (.Call (.Attribute (.Call (.Name "super" p0) [] [] p1) "__init__" p2) [.Constant (.str msg) j p3] [] p4) p5, .Assign [.Attribute (.Name "self" p6) f p7] (.Name x p8) p9] scope dV kV doc pm an (.ref cda) ct cc), osl⟩ ∧
    codeIn K (.ref cda) qual = true ∧ K.lookup cda = some ⟨ccl, cdd, .fields vs, ccs⟩ ∧ vs[2]? = some (.str file tf) ∧ ((P.main.file : Str) == file) = true ∧ K.lookup cc = some ⟨cl, cld, .cell (some (.ref C)), csl⟩ ∧
    (params.posonlyargs ++ params.args).head? = some ar ∧ ar.arg = ("self" : Str) ∧ (∀ (s : Shared) (e u : Value), BindsTo s (ksFn "__init__" qual params [.Expr (.Call (.Attribute (.Call (.Name "super" p0) [] [] p1) "__init__" p2) [.Constant (.str msg) j p3] [] p4) p5, .Assign [.Attribute (.Name "self" p6) f p7] (.Name x p8) p9] scope dV kV doc pm an (.ref cda) ct cc) ⟨[e, u], []⟩ [("self", e), (x, u)]) ∧
    scope.names.lookup ("super" : Str) = some .globalImplicit ∧ scope.names.lookup ("__class__" : Str) = some .free ∧ scope.names.lookup ("self" : Str) = some .local ∧ scope.names.lookup x = some .local ∧ (∀ y ∈ scope.names, y.2 ≠ .cell) ∧
    scope.isCoroutine = false ∧ scope.isGenerator = false ∧ scope.kind = .function ∧ x ≠ ("self" : Str) ∧ (x == ("__debug__" : Str)) = false ∧
    (∀ L, interactive (ksEnv qual scope L fI (.ref cda) cc) = false) ∧ (∀ L, swapsWith (.Call (.Attribute (.Call (.Name "super" p0) [] [] p1) "__init__" p2) [.Constant (.str msg) j p3] [] p4) none p5.line (ksEnv qual scope L fI (.ref cda) cc) = pure false) ∧
    (∀ L, swapsWith (.Name x p8) (some (.Attribute (.Name "self" p6) f p7)) p9.line (ksEnv qual scope L fI (.ref cda) cc) = pure false) ∧
    ∃ pl : Sem Bool, ∀ L, eval (.Call (.Attribute (.Call (.Name "super" p0) [] [] p1) "__init__" p2) [.Constant (.str msg) j p3] [] p4) (ksEnv qual scope L fI (.ref cda) cc) = (do
      let ov ← attributeBase (.Call (.Name "super" p0) [] [] p1) "__init__" (ksEnv qual scope L fI (.ref cda) cc) (eval (.Call (.Name "super" p0) [] [] p1) (ksEnv qual scope L fI (.ref cda) cc))
      standAt p2.atName
      let (f, first) ← holding [ov] (getMethod ov "__init__" pl)
      callWith p4 f first (backTo p4 (starEach [.Constant (.str msg) j p3] (ksEnv qual scope L fI (.ref cda) cc))) [])
section
variable {prog : Program} {w : World} {A : Around} {R : Result → Shared → Prop} {K : Frag} {C fI e t0 : Addr} {u : Value} {x f : Str} {mg mb : Str → Option Value} {s : Shared}
theorem init_attr (T : L2.OexC K C) (Z : InitA prog K C fI x f) (X : K.In s.heap) (hlim : s.heap.NoLimit) (hroom : A.depth < recursionLimit) (hg : s.heap.Ns mainGlobals mg) (hgs : mg "super" = none) (hb : s.heap.Ns builtinsNs mb) (hbs : mb "super" = some (.type "super"))
    (he : s.heap.get? e = some (HandSPX.excO C t0)) (hKe : K.lookup e = none)
    (hq : ∀ h' tk' dx t1, (∀ b o, b ≠ e → s.heap.get? b = some o → h'.get? b = some o) → s.heap.objs.size ≤ dx → h'.get? e = some { cls := .ref C, dict := some dx, data := .fields #[.ref t1, .none, .none, .none, .bool false, .none] } →
      h'.Ns1 dx (fun y => if y = f then some u else none) → R (.ok (.ret .none)) { s with heap := h', toks := tk' }) :
    codeAny (model prog w) A (.call (.ref fI) ⟨[.ref e, u], []⟩) R s := by
  obtain ⟨oc, ct, dV, kV, doc, pm, od, an, cda, cc, osl, qual, params, scope, msg, j, p0, p1, p2, p3, p4, p5, p6, p7, p8, p9, vs, file, tf, ccl, cl, cdd, cld, ccs, csl, ar, hf, hcd, hcode, hvs, hfile, hcell, har, harn, hbind, s1, s2, s3, s4, s5, s6, s7, s8, s9, s10, s11, s12, s13, pl, s14⟩ := Z.ex
  obtain ⟨nm, qn, N, bs, bm, sn, sub, ab, col, dd, k0, k1, k2, k3, k5, hC, hbm⟩ := T.cls
  refine ks_codeAny_call_defAt (binds := [("self", .ref e), (x, u)]) hroom (X _ _ hf) rfl hlim (codeRec_of X hcd) rfl (hbind s _ _) s5 (fun y hy => ?_) (fun h₀ hns hk => ?_) s6 s7 s8
  · rcases List.mem_cons.mp hy with rfl | hy
    · exact s3
    · rw [List.mem_singleton.mp hy]; exact s4
  have X0 : K.In h₀ := X.keeps hk
  obtain ⟨hp, g, d, t, os⟩ := s
  have hCp := X0 _ _ hC
  have hep := hk _ _ he
  have hne : e ≠ hp.objs.size := Nat.ne_of_lt (Heap.lt_size he)
  have hself : (fun y => [(("self" : Str), Value.ref e), (x, u)].reverse.lookup y) "self" = some (.ref e) := by
    show (List.lookup ("self" : Str) [(x, u), (("self" : Str), Value.ref e)]) = _
    have : (("self" : Str) == x) = false := by simpa using fun z => s9 z.symm
    simp [List.lookup, this]
  have hx : (fun y => [(("self" : Str), Value.ref e), (x, u)].reverse.lookup y) x = some u := by
    show (List.lookup x [(x, u), (("self" : Str), Value.ref e)]) = _
    simp [List.lookup]
  refine ks_wpAt_execs_cons (ks_wpAt_Expr_any (ks_wpAt_MethodCall (pl := pl) ?_ (s14 _)) (s11 _) (s12 _))
  refine ks_wpAt_super_base s1 s2 (by decide) rfl (X0 _ _ hf) rfl har rfl (X0 _ _ hcode) rfl hvs hfile Z.top ?_
  refine ks_loadName_global s8 s1 (loadGlobal_builtin (hg.keeps hk) hgs (hb.keeps hk) hbs ⟨rfl, ?_⟩)
  refine wpAny_loadName_free s8 s2 rfl ⟨_, X0 _ _ hcell, rfl⟩ ?_
  rw [harn]
  refine wpAny_loadName_local s8 s3 hns hself ?_
  refine ks_wpAny_isType_cls hCp rfl ⟨rfl, ?_⟩
  refine ks_wpAny_call_super hCp rfl hep rfl (fun c z => by cases z) (looks_mroIn X0 Z.mro) (fun h' ho k => ?_)
  have X1 : K.In h' := X0.keeps k
  have hcl : clsIn K C = some { name := nm, bases := bs, mro := .ref C :: bm, ns := N, qualname := qn, hasDict := true, slotNames := sn, subclasses := sub, abstract := ab, collection := col, hasDel := false } := by unfold clsIn; rw [hC] <;> rfl
  have hsup : alongIn K "__init__" (((Value.ref C :: bm).dropWhile (· != .ref C)).drop 1) = some (some (.builtin "ValueError.__init__")) := by
    have := Z.sup
    unfold ks_superIn at this
    rw [hcl] at this
    exact this
  have I1 : InstAt h' e (HandSPX.excO C t0) C none := ⟨k _ _ hep, rfl, rfl, trivial⟩
  have hCe : e ≠ C := fun z => by rw [z, hC] at hKe; cases hKe
  refine kxs_getMethod kxs_ValueError ho (looks_opaque X1 Z.opq) (l₀ := .ref C :: bm) (fun A Q E s k q => wpAny_bind ((looks_clsIn X1 hcl) A _ E s k (wpAny_pure q))) rfl X1 hsup (I1.type.andThen (looks_subIn X1 Z.hB)) hCe (by decide) ?_
  have k2 : ∀ b o, h'.get? b = some o → (h'.push (kxs_mw "ValueError.__init__" e)).get? b = some o := fun b o q => Heap.get?_push_of_some _ q
  have hu2 : (h'.push (kxs_mw "ValueError.__init__" e)).get? h'.objs.size = some (kxs_mw "ValueError.__init__" e) := Heap.get?_push_at rfl rfl
  refine kxs_callWith (i := "ValueError.__init__") (x := e) rfl (evalArgs_plain (spliced_cons (wpAny_Constant_str (k := j) (pos := p3) (spliced_nil ⟨hu2, ?_⟩))))
  refine call_vw (t0 := t0) (k2 _ _ (k _ _ hCp)) (k2 _ _ (k _ _ hep)) hu2 (by show 1 ≤ sizeLine; rw [sizeLine_eq]; omega) fun h2 t1 k3 e3 => ?_
  have X3 : K.In h2 := fun a o q => k3 a o (fun z => by rw [z, hKe] at q; cases q) (k2 _ _ (X1 a o q))
  obtain ⟨oL, es, ep, hL, rL⟩ := hns
  have hL2 := k3 _ _ (Ne.symm hne) (k2 _ _ (k _ _ hL))
  refine ks_wpAt_execs_cons (ks_wpAt_Assign_Attr ?_ (s13 _))
  refine wpAt_of_wpAny (wpAny_Name (wpAny_loadName_local s8 s4 ⟨oL, es, ep, hL2, rL⟩ hx ?_) s10)
  refine wpAny_Name (wpAny_loadName_local s8 s3 ⟨oL, es, ep, hL2, rL⟩ hself ?_) (by decide)
  refine set_plain X3 (ox := HandSPX.excO C t1) (od := none) ⟨e3, rfl, rfl, trivial⟩ T.sa ?_
  refine HandSPX.exc_osa X3 e3 hcl (show HandSPX.refsVE (.ref C :: bm) = true from hbm) rfl Z.no (fun h4 tk dx k4 dn dne hx4 hn4 => ?_)
  have hsz : hp.objs.size < h2.objs.size := Heap.lt_size hL2
  have fin := hq h4 tk dx t1 (fun b o hb q => k4 b o hb (k3 b o hb (k2 _ _ (k _ _ (hk _ _ q))))) (Nat.le_trans (Nat.le_of_lt hsz) dn) hx4 hn4
  refine wpAt_of_wpAny ?_
  rw [execs_nil]
  exact wpAny_pure fin
end
open L2 in
section
variable {X : Cx} {p pos : Pos} {e : Expr} {te : TE}
def tMkA (C : Addr) (f : Str) (te : TE) : L2.St → Hp → XK → Prop := fun σ H Q => te σ H fun y H1 => ∀ d, H1 d = none → Q (.ref C) (some d) (upd H1 d (.xd [(f, y)]))
theorem un_new {fs : List Addr} {H : Hp} {hp h' : Heap} {a C dx : Addr} {f : Str} {y : V} (e : H a = some (exo a C none)) (hnd : H dx = none) (nd : ∀ {b : Addr} {o : Obj}, hp.get? b = some o → b ≠ dx) (k : ∀ b o, b ≠ a → hp.get? b = some o → h'.get? b = some o) (hx : ∃ o, h'.get? a = some o) :
    Un fs [] H (upd (upd H dx (exd dx [(f, y)])) a (exo a C (some dx))) hp h' := by
  have na : ∀ {b : Addr}, H b = none → b ≠ a := fun {b} n z => by
    rw [z, e] at n
    cases n
  exact {
    keep := fun b o q n _ _ => k b o (na n) q
    slot := fun b o q n _ _ => ⟨o.slots, k b o (na n) q⟩
    free := fun b o q n _ => by rw [upd_ne (na n), upd_ne (nd q)]; exact n
    there := fun b o q _ => by
      by_cases hb : b = a
      · rw [hb]; exact hx
      · exact ⟨o, k b o hb q⟩
    tups := fun b xs q => by rw [upd_ne (at_ne e q exo_tup), upd_ne (ne_of_none q hnd)]; exact q
    frzs := fun b o v q => by rw [upd_ne (at_ne e q exo_frz), upd_ne (ne_of_none q hnd)]; exact q
    tbls := fun b ps q => ⟨#[], by rw [upd_ne (at_ne e q exo_tbl), upd_ne (ne_of_none q hnd), q]; simp⟩ }
theorem pmk_exa {x px f : Str} {C fI : Addr} {k : Nat} (T : OexC X.K C) (Z : InitA X.prog X.K C fI px f) (iC : PySem.W.findIn X.K (.ref C) "__init__" = some (some (.ref fI))) (tI : PySem.W.typeIn X.K (.ref fI) = some (.type "function"))
    (hr : Room (k + 1) X.A) (hg : Gl X x) (hm : X.mg x = some (.ref C)) (hs : X.mg "super" = none) (ha : PE X e te)
    (hdb : (x == ("__debug__" : Str)) = false := by decide) (he : starEach [e] X.env = (false, eval e X.env) :: starEach [] X.env := by rfl) (hpl : (backTo pos (starEach [] X.env)).any (·.1) = false := by rfl) :
    PMk X (.Call (.Name x p) [e] [] pos) (tMkA C f te) := by
  intro pins s σ H Q I h
  obtain ⟨nm, q, N, bs, bm, sn, sub, ab, col, dd, k0, k1, k2, k3, k5, hC, hbm⟩ := T.cls
  refine wpAny_Call_Name_kw (ld_glob I hg hm ?_ hdb)
  refine PySem.W.callWith_K (h₀ := X.base) I.ok.mod.kin T.kC (thn ((pa_cons ha pa_nil he).run pos pins s σ H (fun vs H1 => match vs with | [y] => ∀ d, H1 d = none → Q (.ref C) (some d) (upd H1 d (.xd [(f, y)])) | _ => False) I h) fun us s1 ⟨vs, H1, I1, r1, q1⟩ => ⟨I1.kIn, ?_⟩) he hpl
  obtain ⟨y, rfl⟩ : ∃ y, vs = [y] := by
    match vs, q1 with
    | [y], _ => exact ⟨y, rfl⟩
    | [], q => exact (show False from q).elim
    | _ :: _ :: _, q => exact (show False from q).elim
  have q1 : ∀ d, H1 d = none → Q (.ref C) (some d) (upd H1 d (.xd [(f, y)])) := q1
  obtain ⟨u, rfl, ru⟩ := L2.Vals.one r1
  show wpAny _ _ (call (.ref C) [u]) _ _ _
  obtain ⟨hp, g, dr, tk, os⟩ := s1
  have hsz : hp.objs.size ≤ hp.objs.size + 1 := Nat.le_succ _
  have hn : H1 (hp.objs.size + 1) = none := I1.hok.fresh hsz
  have kk : ∀ b o, hp.get? b = some o → ((hp.push (PySem.W.kdv_tup [u])).push (PySem.HandSPX.excO C hp.objs.size)).get? b = some o := fun b o e => Heap.get?_push_of_some _ (Heap.get?_push_of_some _ e)
  have hget : ((hp.push (PySem.W.kdv_tup [u])).push (PySem.HandSPX.excO C hp.objs.size)).get? (hp.objs.size + 1) = some (PySem.HandSPX.excO C hp.objs.size) := by heap_get
  have I2 : Inv X pins σ (upd H1 (hp.objs.size + 1) (exo (hp.objs.size + 1) C none)) ⟨(hp.push (PySem.W.kdv_tup [u])).push (PySem.HandSPX.excO C hp.objs.size), g, dr, tk, os⟩ :=
    I1.laid (t' := tk) (a := hp.objs.size + 1) (o := exo (hp.objs.size + 1) C none) (h' := (hp.push (PySem.W.kdv_tup [u])).push (PySem.HandSPX.excO C hp.objs.size)) kk hsz (exo_ok hget)
  have e0 := I2.env0.make C [u] []
  have bk : ∀ b o, X.base.get? b = some o → ((hp.push (PySem.W.kdv_tup [u])).push (PySem.HandSPX.excO C hp.objs.size)).get? b = some o := fun b o e => (e0.bs b o e).1
  obtain ⟨mb, hb1, hb2⟩ := e0.mod.blt
  have hKe : X.K.lookup (hp.objs.size + 1) = none := by
    cases z : X.K.lookup (hp.objs.size + 1) with
    | none => rfl
    | some o =>
      have := Heap.lt_size (show hp.get? (hp.objs.size + 1) = some o from I1.kIn _ _ z)
      exact absurd this (Nat.not_lt.mpr (Nat.le_succ _))
  refine wpAny_call (PySem.HandSPX.call_own F.excBase_ValueError (fun Y => PySem.HandSPX.refsVE_contains Y bm hbm) (I1.kIn _ _ hC) (PySem.W.looks_findIn I1.kIn iC) (fun self => PySem.W.bind_fn I1.kIn self tI) (by show 1 ≤ sizeLine; rw [sizeLine_eq]; omega)
    (init_attr T Z I2.kIn (e0.mod.nolimit.keeps bk) (hr.make C [u] []).depth (e0.mod.glob.keeps bk) hs (hb1.keeps bk) ((hb2 "super" (by decide)).trans (by decide +kernel)) hget hKe fun h' tk' dx t1 k dn hx hns => ?_))
  have ea : upd H1 (hp.objs.size + 1) (exo (hp.objs.size + 1) C none) (hp.objs.size + 1) = some (exo (hp.objs.size + 1) C none) := upd_same
  have dne : dx ≠ hp.objs.size + 1 := fun z => by
    have := Heap.lt_size hget
    rw [z] at dn
    exact absurd dn (by show ¬ _; exact Nat.not_le.mpr this)
  have hnd : upd H1 (hp.objs.size + 1) (exo (hp.objs.size + 1) C none) dx = none := I2.hok.fresh dn
  have nd : ∀ {b : Addr} {o : Obj}, ((hp.push (PySem.W.kdv_tup [u])).push (PySem.HandSPX.excO C hp.objs.size)).get? b = some o → b ≠ dx := fun {b o} q => Nat.ne_of_lt (Nat.lt_of_lt_of_le (Heap.lt_size q) dn)
  have U : ∀ fs, Un fs [] (upd H1 (hp.objs.size + 1) (exo (hp.objs.size + 1) C none)) (upd (upd (upd H1 (hp.objs.size + 1) (exo (hp.objs.size + 1) C none)) dx (exd dx [(f, y)])) (hp.objs.size + 1) (exo (hp.objs.size + 1) C (some dx))) ((hp.push (PySem.W.kdv_tup [u])).push (PySem.HandSPX.excO C hp.objs.size)) h' := fun fs => un_new ea hnd nd k ⟨_, hx⟩
  have hok2 : HOk X.prog X.w (upd (upd (upd H1 (hp.objs.size + 1) (exo (hp.objs.size + 1) C none)) dx (exd dx [(f, y)])) (hp.objs.size + 1) (exo (hp.objs.size + 1) C (some dx))) h' := fun b o q => by
    by_cases hb : b = hp.objs.size + 1
    · subst hb
      rw [upd_same] at q
      cases q
      exact exo_ok hx
    · rw [upd_ne hb] at q
      by_cases hd : b = dx
      · subst hd
        rw [upd_same] at q
        cases q
        exact exd_ok hns (relO_put (fs := []) ru fun g => True.intro)
      · rw [upd_ne hd] at q
        exact (I2.hok b o q).stay (fun c v hc z => k c v (by
            rcases hc with hc | hc
            · rw [hc]
              exact hb
            · exact at_ne ea hc exo_own) z)
          (fun c hc => by rw [upd_ne (at_ne ea hc exo_own), upd_ne (ne_of_none hc hnd)]; exact hc) (fun c xs hc => by rw [upd_ne (at_ne ea hc exo_tup), upd_ne (ne_of_none hc hnd)]; exact hc)
  have hd1 : H1 dx = none := by rw [upd_ne dne] at hnd; exact hnd
  refine ⟨rfl, mk_end (fs := [(f, y)]) (raises_own T.exC T.tyC) I1 hsz kk (U _) hok2 rfl I1.bare upd_same (by rw [upd_ne dne]; exact upd_same) hd1 ?_⟩
  have eH : upd (del (upd (upd (upd H1 (hp.objs.size + 1) (exo (hp.objs.size + 1) C none)) dx (exd dx [(f, y)])) (hp.objs.size + 1) (exo (hp.objs.size + 1) C (some dx))) (hp.objs.size + 1)) dx (.xd [(f, y)]) = upd H1 dx (.xd [(f, y)]) := by
    funext b
    by_cases hb : b = dx
    · rw [hb, upd_same, upd_same]
    · rw [upd_ne hb, upd_ne hb]
      by_cases hb2 : b = hp.objs.size + 1
      · rw [hb2, del_same, hn]
      · rw [del_ne hb2, upd_ne hb2, upd_ne hb, upd_ne hb2]
  rw [eH]
  exact q1 dx hd1
end
abbrev supX (msg : Str) (j : Nat) (p0 p1 p2 p3 p4 : Pos) : Expr := .Call (.Attribute (.Call (.Name "super" p0) [] [] p1) "__init__" p2) [.Constant (.str msg) j p3] [] p4
def InitW (stm : Stmt) (qual x f : Str) : Prop := ∃ (msg : Str) (j : Nat) (p0 p1 p2 p3 p4 p5 p6 p7 p8 p9 : Pos) (ar : Arg),
  L2.defBody stm = [.Expr (supX msg j p0 p1 p2 p3 p4) p5, .Assign [.Attribute (.Name "self" p6) f p7] (.Name x p8) p9] ∧
  ((L2.defArgs stm).posonlyargs ++ (L2.defArgs stm).args).head? = some ar ∧ ar.arg = ("self" : Str) ∧
  (∀ (kV doc pm ct : Value) (an : Option Addr) (cda cc : Addr) (e u : Value), bindArgs (ksFn "__init__" qual (L2.defArgs stm) (L2.defBody stm) (L2.defScope stm) .none kV doc pm an (.ref cda) ct cc) ⟨[e, u], []⟩ = pure [(("self" : Str), e), (x, u)]) ∧
  (L2.defScope stm).names.lookup ("super" : Str) = some .globalImplicit ∧ (L2.defScope stm).names.lookup ("__class__" : Str) = some .free ∧ (L2.defScope stm).names.lookup ("self" : Str) = some .local ∧ (L2.defScope stm).names.lookup x = some .local ∧ (∀ y ∈ (L2.defScope stm).names, y.2 ≠ .cell) ∧
  (L2.defScope stm).isCoroutine = false ∧ (L2.defScope stm).isGenerator = false ∧ (L2.defScope stm).kind = .function ∧ x ≠ ("self" : Str) ∧ (x == ("__debug__" : Str)) = false ∧
  (∀ (L fI cda cc : Addr), interactive (ksEnv qual (L2.defScope stm) L fI (.ref cda) cc) = false) ∧ (∀ (L fI cda cc : Addr), swapsWith (supX msg j p0 p1 p2 p3 p4) none p5.line (ksEnv qual (L2.defScope stm) L fI (.ref cda) cc) = pure false) ∧
  (∀ (L fI cda cc : Addr), swapsWith (.Name x p8) (some (.Attribute (.Name "self" p6) f p7)) p9.line (ksEnv qual (L2.defScope stm) L fI (.ref cda) cc) = pure false) ∧
  ∃ pl : Sem Bool, ∀ (L fI cda cc : Addr), eval (supX msg j p0 p1 p2 p3 p4) (ksEnv qual (L2.defScope stm) L fI (.ref cda) cc) = (do
      let ov ← attributeBase (.Call (.Name "super" p0) [] [] p1) "__init__" (ksEnv qual (L2.defScope stm) L fI (.ref cda) cc) (eval (.Call (.Name "super" p0) [] [] p1) (ksEnv qual (L2.defScope stm) L fI (.ref cda) cc))
      standAt p2.atName
      let (f, first) ← holding [ov] (getMethod ov "__init__" pl)
      callWith p4 f first (backTo p4 (starEach [.Constant (.str msg) j p3] (ksEnv qual (L2.defScope stm) L fI (.ref cda) cc))) [])
theorem initA_mk {P : Program} {K : Frag} {C fI cda cc : Addr} {qual x f : Str} {stm : Stmt} {oc kV doc pm ct ccl cl : Value} {od an cdd cld : Option Addr} {osl ccs csl : Array (Option Value)} {vs : Array Value} {file : Str} {tf : Tok} (W : InitW stm qual x f)
    (h1 : K.lookup fI = some ⟨oc, od, .func (ksFn "__init__" qual (L2.defArgs stm) (L2.defBody stm) (L2.defScope stm) .none kV doc pm an (.ref cda) ct cc), osl⟩) (h2 : codeIn K (.ref cda) qual = true) (h3 : K.lookup cda = some ⟨ccl, cdd, .fields vs, ccs⟩) (h4 : vs[2]? = some (.str file tf))
    (h5 : ((P.main.file : Str) == file) = true) (h6 : K.lookup cc = some ⟨cl, cld, .cell (some (.ref C)), csl⟩) (a1 : ks_superIn K C C "__init__" = some (some (.builtin "ValueError.__init__"))) (a2 : subIn K (.ref C) (.type "ValueError") = some true) (a3 : mroIn K C (.ref C) = some true)
    (a4 : nsIn K cStatics "thirdparty.any" = some none) (a5 : findIn K (.ref C) f = some none) (a6 : (P.main.scope.names.lookup ("super" : Str)).isSome = false) : InitA P K C fI x f := by
  obtain ⟨msg, j, p0, p1, p2, p3, p4, p5, p6, p7, p8, p9, ar, e0, e1, e2, e3, e4, e5, e6, e7, e8, e9, e10, e11, e12, e13, e14, e15, e16, pl, e17⟩ := W
  rw [e0] at h1 e3
  exact ⟨a1, a2, a3, a4, a5, a6, oc, ct, .none, kV, doc, pm, od, an, cda, cc, osl, qual, _, _, msg, j, p0, p1, p2, p3, p4, p5, p6, p7, p8, p9, vs, file, tf, ccl, cl, cdd, cld, ccs, csl, ar, h1, h2, h3, h4, h5, h6, e1, e2, fun s e u => .of_eq (e3 _ _ _ _ _ _ _ e u), e4, e5, e6, e7, e8, e9, e10, e11, e12, e13,
    fun L => e14 L fI cda cc, fun L => e15 L fI cda cc, fun L => e16 L fI cda cc, pl, fun L => e17 L fI cda cc⟩
structure ExaTxt (P : Program) (K : Frag) (mg : Str → Option Value) (x : Str) (C : Addr) (f : Str) : Prop where
  g : mg x = some (.ref C)
  s : mg "super" = none
  o : L2.OexC K C
  i : ∃ (fI : Addr) (px : Str), InitA P K C fI px f ∧ findIn K (.ref C) "__init__" = some (some (.ref fI)) ∧ typeIn K (.ref fI) = some (.type "function")
open L2 in
def dRaiseA (cls : Value) (f : Str) (pe : PTE) : PTS := fun w P ρ M => pe w ρ M fun d M1 => w cls [(f, d)] ρ M1
open L2 in
theorem ds_raiseA {X : Cx} {W : WX} {x f : Str} {p pos pos2 : Pos} {C : Addr} {e : Expr} {pe : PTE} {k : Nat} (hc : X.calm = true) (tk : Takes X W) (T : ExaTxt X.prog X.K X.mg x C f) (hr : Room (k + 1) X.A) (hg : Gl X x) (he : DE X W e pe) (hdb : (x == ("__debug__" : Str)) = false := by decide)
    (hst : starEach [e] X.env = (false, eval e X.env) :: starEach [] X.env := by rfl) (hpl : (backTo pos (starEach [] X.env)).any (·.1) = false := by rfl) :
    DS X W (.Raise (some (.Call (.Name x p) [e] [] pos)) none pos2) (dRaiseA (.ref C) f pe) := by
  obtain ⟨fI, px, Z, i1, i2⟩ := T.i
  refine ps_imp (ps_raise hc tk (pmk_exa T.o Z i1 i2 hr hg T.g T.s he hdb hst hpl)) fun D σ H ⟨g, ρ, M, F, O, P, w, A, h, hw, _⟩ => ?_
  refine ⟨g, ρ, M, F, O, _, w, A, h, hw, fun y H1 F1 O1 M1 d1 A1 s1 r1 q1 => fun d hd => ?_⟩
  have s2 := same_new (o := .xd [(f, y)]) (A1.f0 hd)
  exact hw (.ref C) (some d) σ _ ρ M1 _ O1 [(f, d1)] (A1.lay hd) (s1.trans s2) ⟨[(f, y)], upd_same, rfl, ⟨y, [], rfl, Rp.mono s2 _ _ r1, rfl⟩⟩ q1
end Px
set_option Elab.async false
set_option linter.all false
set_option maxRecDepth 100000
namespace Px
open PySem PySem.Spec PyProof.Rows L2
end Px
set_option Elab.async false
set_option linter.all false
set_option maxRecDepth 100000
namespace Px
open PySem PySem.Spec PyProof.Rows L2
noncomputable def patF (f : Int → Bool) : List (Str × D) := [(("p_half" : Str), .int (lh f)), (("p_pieces" : Str), .tup (pcsD (runs f (2 * lh f + 1).toNat)))]
noncomputable def patD (C : Cl) (f : Int → Bool) : D := .obj C.Pattern ((patF f).map (·.1)) ((patF f).map (·.2))
end Px
set_option Elab.async false
set_option linter.all false
set_option maxRecDepth 100000
namespace Px
open PySem PySem.Spec PyProof.Rows L2
structure PropT (K : PySem.W.Frag) (C : Addr) (x qual : Str) (stm : Stmt) (g : Addr) (fd : FuncData) : Prop where
  f : L2.Fun K x qual stm g fd
  b : Binds K fd ["self"] []
  pr : ∃ p, PropOf K C x p g
theorem PropT.fn {P : Program} {w : World} {K : PySem.W.Frag} {mg : Str → Option Value} {base : Heap} {k : Nat} {C g : Addr} {f pf qual : Str} {stm : Stmt} {fd : FuncData} {N : List Str} {p1 p2 p3 : Pos} (t : PropT K C f qual stm g fd) (S : FnScope N ["self"] (defScope stm))
    (hN : N[0]? = some ("self" : Str)) (hb : defBody stm = [.Return (some (.Attribute (.Name "self" p1) pf p2)) p3]) (c : Cls K C) (n : NoAttr K C pf) : FnOk P w K mg base (fun _ _ _ _ _ _ => False) (k + 1) g fd ["self"] (getSp C pf) := by
  obtain ⟨oc, od, kV, doc, pm, an, cdv, ct, osl, rfl, lk, hcd⟩ := t.f.ex
  exact fn_getter lk hcd S hN hb c n
end Px
set_option Elab.async false
set_option linter.all false
set_option maxRecDepth 100000
namespace Px
open PySem PySem.Spec PyProof.Rows L2
theorem kit_self {K : PySem.W.Frag} {C : Addr} : PySem.W.kitOne K (.ref C) (.ref C) = some true := by
  unfold PySem.W.kitOne
  rw [beq_self_eq_true]
  rfl
theorem kit_not {K : PySem.W.Frag} {C : Addr} {t : String} (h1 : PySem.W.isClsIn K C = true) (h2 : PySem.W.typeIn K (.ref C) = some (.type "type")) (h3 : PySem.W.subIn K (.type t) (.ref C) = some false) : PySem.W.kitOne K (.type t) (.ref C) = some false := by
  have h1' : (PySem.W.clsIn K C).isSome = true := h1
  have e1 : ((PySem.W.clsIn K C).isSome && PySem.W.typeIn K (.ref C) == some (.type "type")) = true := by
    rw [h1', h2] <;> rfl
  have e0 : (Value.type t == Value.ref C) = false := Bool.eq_false_iff.mpr fun q => by cases beq_iff_eq.mp q
  unfold PySem.W.kitOne PySem.W.kitCls
  rw [e0, if_neg Bool.false_ne_true]
  dsimp only
  rw [if_pos e1, h3]
section
variable {X : Cx} {W : WX} {k n : Nat} {f C : Addr} {fd : FuncData} {ps : List Str} {sp : PSp} {pos : Pos} {a b : Expr} {pa pb : PTE}
end
end Px
set_option Elab.async false
set_option linter.all false
set_option maxRecDepth 100000
namespace Px
open PySem PySem.Spec PyProof.Rows L2
structure ZG (xs ys : Array Value) (lo : Addr) (h : Heap) (as : List Addr) : Prop where
  rise : as.Pairwise (· < ·)
  above : ∀ a ∈ as, lo < a
  pairs : ∀ (j : Nat) (a : Addr), as[j]? = some a → ∃ x y, xs[j]? = some x ∧ ys[j]? = some y ∧ h.get? a = some { cls := .type "tuple", data := .seq #[x, y] }
theorem ZG.there {xs ys : Array Value} {lo : Addr} {h : Heap} {as : List Addr} (g : ZG xs ys lo h as) {a : Addr} (ha : a ∈ as) : a < h.objs.size := by
  obtain ⟨j, hj⟩ := List.mem_iff_getElem?.mp ha
  obtain ⟨_, _, _, _, e⟩ := g.pairs j a hj
  exact Heap.lt_size e
structure ZSt (z TI TO i1 i2 l1 l2 S : Addr) (xs ys : Array Value) (i : Nat) (h : Heap) : Prop where
  ti : IsPair h TI (.ref i1) (.ref i2)
  h1 : h.IsListIter i1 l1 i
  h2 : h.IsListIter i2 l2 i
  hl1 : h.IsList l1 xs
  hl2 : h.IsList l2 ys
  hz : (IsZip h z TI TO .none ∧ ∃ a b, IsPair h TO a b) ∨ ∃ T f oT, IsZipHeld h z TI TO T f ∧ h.get? T = some oT ∧ T ≠ z ∧ T ≠ i1 ∧ T ≠ i2 ∧ T ≠ S
structure ZOff (z TI TO i1 i2 l1 l2 S : Addr) : Prop where
  z : S ≠ z
  TI : S ≠ TI
  TO : S ≠ TO
  i1 : S ≠ i1
  i2 : S ≠ i2
  l1 : S ≠ l1
  l2 : S ≠ l2
theorem ZSt.keep {z TI TO i1 i2 l1 l2 S : Addr} {xs ys : Array Value} {i : Nat} {h h' : Heap} (st : ZSt z TI TO i1 i2 l1 l2 S xs ys i h) (f : ZOff z TI TO i1 i2 l1 l2 S) (k : ∀ b o, b ≠ S → h.get? b = some o → h'.get? b = some o) : ZSt z TI TO i1 i2 l1 l2 S xs ys i h' where
  ti := k _ _ f.TI.symm st.ti
  h1 := st.h1.at fun o e => k _ o f.i1.symm e
  h2 := st.h2.at fun o e => k _ o f.i2.symm e
  hl1 := st.hl1.at fun o e => k _ o f.l1.symm e
  hl2 := st.hl2.at fun o e => k _ o f.l2.symm e
  hz := by
    rcases st.hz with ⟨hz, a, b, hTO⟩ | ⟨T, g, oT, hz, hT, r1, r2, r3, r4⟩
    · exact .inl ⟨k _ _ f.z.symm hz, a, b, k _ _ f.TO.symm hTO⟩
    · exact .inr ⟨T, g, oT, k _ _ f.z.symm hz, k _ _ r4 hT, r1, r2, r3, r4⟩
section
variable {prog : Program} {w : World} {A : Around} {E : Value → Shared → Prop} {s : Shared} {z TI TO i1 i2 l1 l2 S : Addr} {xs ys : Array Value} {i n : Nat}
end
section
variable {prog : Program} {w : World} {A : Around} {E : Value → Shared → Prop} {s : Shared} {z TI TO i1 i2 l1 l2 S : Addr} {xs ys : Array Value} {n : Nat}
end
section
variable {X : Cx} {W : WX} {a b : Expr} {pa pb : PTE} {p p2 pos pos2 : Pos}
end
end Px
set_option Elab.async false
set_option linter.all false
set_option maxRecDepth 100000
namespace Px
open PySem PySem.Spec PyProof.Rows L2
def IsPat (C : Cl) (d : D) (f : Int → Bool) : Prop := d = patD C f ∧ (∃ h, Per h f) ∧ lh f ≤ 5040
theorem IsPat.per {C : Cl} {d : D} {f : Int → Bool} (h : IsPat C d f) : Per (lh f) f := let ⟨_, ⟨_, p⟩, _⟩ := h; lh_per p
theorem IsPat.pos {C : Cl} {d : D} {f : Int → Bool} (h : IsPat C d f) : 0 < lh f := h.per.1
theorem isPat_of {C : Cl} {h : Int} {f : Int → Bool} (p : Per h f) (hh : h ≤ 5040) : IsPat C (patD C f) f := ⟨rfl, ⟨h, p⟩, Int.le_trans (lh_le p) hh⟩
theorem fAll_of {l : List D} {bs : List Bool} {k : D → Prop} (e : l = bs.map .bl) (h : k (.bl (bs.all id))) : fAll (.lst l) k := by
  subst e
  unfold fAll
  dsimp only
  rw [boolsOf_map]
  exact h
end Px
set_option Elab.async false
set_option linter.all false
set_option maxRecDepth 100000
namespace Px
open PySem PySem.Spec PyProof.Rows L2
end Px
set_option Elab.async false
set_option linter.all false
set_option maxRecDepth 100000
namespace Px
open PySem PySem.Spec PyProof.Rows L2
theorem Per.op {d : Int} {f g : Int → Bool} (hf : Per d f) (hg : Per d g) (fn : Bool → Bool → Bool) : Per d fun z => fn (f z) (g z) :=
  ⟨hf.1, fun z => by show fn _ _ = fn _ _; rw [hf.2.1, hg.2.1], fun z => by show fn _ _ = fn _ _; rw [hf.2.2, hg.2.2]⟩
end Px
set_option Elab.async false
set_option linter.all false
set_option maxRecDepth 100000
namespace Px
open PySem PySem.Spec PyProof.Rows L2
section
variable {X : Cx} {W : WX} {tg a b c : Expr} {rest : List Expr} {pa pb pc : PTE} {pos p : Pos}
end
end Px
set_option Elab.async false
set_option linter.all false
set_option maxRecDepth 100000
namespace Px
open PySem PySem.Spec PyProof.Rows L2
theorem okD_ints' {k : Nat} (ns : List Int) : okD (k + 1) (.lst (ns.map .int)) = true := by
  show (ns.map D.int).all (okD k) = true
  rw [List.all_eq_true]
  intro d hd
  obtain ⟨n, _, rfl⟩ := List.mem_map.mp hd
  cases k <;> rfl
end Px
set_option Elab.async false
set_option linter.all false
set_option maxRecDepth 100000
namespace Px
open PySem PySem.Spec PyProof.Rows L2
end Px
set_option Elab.async false
set_option linter.all false
set_option maxRecDepth 100000
namespace Px
open PySem PySem.Spec PyProof.Rows L2
def Ev (pe : PTE) (w : PWi) (ρ : Rho) (M : Mm) (d : D) : Prop := ∀ q : PQ, q d M → pe w ρ M q
section
variable {C : Cl} {w : PWi} {ρ : Rho} {M : Mm} {pa pb : PTE} {f g : Int → Bool} {s o : D}
theorem ev_var {i : Nat} {d : D} (h : gt ρ i = some (.val d)) : Ev (dVar i) w ρ M d := fun q hq => by
  unfold dVar
  rw [h]
  exact hq
theorem ev_c {d : D} : Ev (dC d) w ρ M d := fun q hq => hq
theorem compR_yes {gd : PTG} {te : PTE} {d : D} {r acc : List D} {q : List D → Mm → Prop} (h : gd d ρ fun ρ' => te w0 ρ' M fun y M2 => acc.length < 1000000 ∧ compR gd dYes te ρ r (acc ++ [y]) M2 q) : compR gd dYes te ρ (d :: r) acc M q := h
theorem iA_ev {l : List D} {q : List D → Mm → Prop} (he : Ev pa w ρ M (.lst l)) (h : q l M) : iA pa w ρ M q := he _ h
end
end Px
set_option Elab.async false
set_option linter.all false
set_option maxRecDepth 100000
namespace Px
open PySem PySem.Spec PyProof.Rows L2
section
open Builtin
variable {prog : Program} {w : World} {A : Around} {E : Value → Shared → Prop} {s : Shared} {K : PySem.W.Frag} {x C L f : Addr} {h₀ : Heap} {m : Str → Option Value} {ox : Obj} {od : Option Obj} {b tb : Value}
end
section
variable {X : Cx} {W : WX} {k n : Nat} {f C : Addr} {fd : FuncData} {ps : List Str} {sp : PSp} {pos : Pos} {a b : Expr} {pa pb : PTE}
end
end Px
set_option Elab.async false
set_option linter.all false
set_option maxRecDepth 100000
namespace Px
open PySem PySem.Spec PyProof.Rows L2
section
variable {X : Cx} {W : WX} {k n : Nat} {f C : Addr} {fd : FuncData} {ps ks : List Str} {sp : PSp} {m : Str} {pos apos : Pos} {o : Expr} {kws : List Keyword} {ix : List Nat} {po : PTE} {pl : PTA}
end
end Px
set_option Elab.async false
set_option linter.all false
set_option maxRecDepth 100000
namespace Px
open PySem PySem.Spec PyProof.Rows L2
section
variable {X : Cx} {W : WX} {k n : Nat} {f C : Addr} {fd : FuncData} {ps : List Str} {sp : PSp} {pos : Pos} {a b : Expr} {pa pb : PTE} {x qual : Str} {st : Stmt}
end
end Px
set_option Elab.async false
set_option linter.all false
set_option maxRecDepth 100000
namespace Px
open PySem PySem.Spec PyProof.Rows L2
section
variable {X : Cx} {W : WX} {k n : Nat} {f C : Addr} {fd : FuncData} {ps : List Str} {sp : PSp} {pos : Pos} {a b : Expr} {pa pb : PTE}
end
end Px
set_option Elab.async false
set_option linter.all false
set_option maxRecDepth 100000
namespace Px
open PySem PySem.Spec PyProof.Rows L2
section
variable {P : Program} {w : World} {A : Around} {E : Value → Shared → Prop} {s : Shared}
set_option maxRecDepth 100000 in
set_option maxHeartbeats 3200000 in
theorem call_set_lstI {l : Addr} {items : Array Value} (ns : List Int) {Q : Value → Shared → Prop} (hh : A.handled = none) (hl : s.heap.IsList l items) (hit : IntsAre items.toList ns) (hb : ns.length + 1 < scanBound)
    (h : ∀ (h' : Heap) (tk c : Nat), SetR w h' s.heap.objs.size (fun j => decide (j ∈ ns)) c → c ≤ ns.length → (∀ b o, s.heap.get? b = some o → h'.get? b = some o) → Q (.ref s.heap.objs.size) { s with heap := h', toks := tk }) :
    wpAny (model P w) A (call (.type "set") [.ref l]) Q E s := by
  have hisz : items.size = ns.length := by
    have q := IntsAre.length hit
    rw [Array.length_toList] at q
    exact q
  obtain ⟨c, tl, hmro⟩ := PySem.F.called_set.mro
  have hmade := PySem.F.called_set.made
  have hsub := PySem.F.called_set.sub
  refine wpAny_call (codeAny_of_tree ?_)
  show wpAny _ _ (callAny (.type "set") _) _ _ _
  refine wpAny_pure ⟨Code.quiet_builtin _ (by decide +kernel), codeAny_builtin PySem.F.entry_type_call ?_⟩
  rw [Around.under_plain (weight_type_call_type "set" [.ref l] []) rfl]
  have h1 := PySem.F.called_set.notType
  have h2 := PySem.F.called_set.canCreate
  have hct := PySem.F.typeCall_set_1 (.ref l)
  repeat (any_goals (first | assumption | wp_step))
  refine codeAny_mono (code_set_led1 (.ref l) (E := E) (Q₁ := fun obj s₁ => obj = .ref s.heap.objs.size ∧ s₁ = { s with heap := s.heap.push { cls := .type "set", dict := none, data := .set #[] 0 (.fresh 0 0 (!w.params.followText "set-order")) } }) ⟨rfl, rfl⟩) fun r s₁ hr => ?_
  cases r with
  | error e => exact hr
  | ok fl =>
    cases fl with
    | ret obj =>
      obtain ⟨rfl, rfl⟩ := hr
      have hS : (s.heap.push { cls := .type "set", dict := none, data := .set #[] 0 (.fresh 0 0 (!w.params.followText "set-order")) }).get? s.heap.objs.size = some { cls := .type "set", dict := none, data := .set #[] 0 (.fresh 0 0 (!w.params.followText "set-order")) } := Heap.get?_push_size _ rfl
      have hT : Shared.TypeIs { s with heap := s.heap.push { cls := .type "set", dict := none, data := .set #[] 0 (.fresh 0 0 (!w.params.followText "set-order")) } } (.ref s.heap.objs.size) "set" := ⟨_, hS, rfl⟩
      have hli := PySem.F.called_set.init.lookup
      have hbi := PySem.F.called_set.init.bind (.ref s.heap.objs.size)
      repeat (any_goals (first | assumption | wp_step))
      refine codeAny_mono (codeAny_call_builtin (R := wants (fun r s₂ => r = .none ∧ ∃ h' tk c, s₂ = { s with heap := h', toks := tk } ∧ SetR w h' s.heap.objs.size (fun j => decide (j ∈ ns)) c ∧ c ≤ ns.length ∧
          (∀ b o, s.heap.get? b = some o → h'.get? b = some o)) E) PySem.F.called_set.init.plain PySem.F.entry_set_init (check_set_init_1 hT ?_)) fun r₂ s₂ hr₂ => ?_
      · obtain ⟨ol, hol, hcl, nl, hdl⟩ := hl
        obtain ⟨ocls, odict, odata, oslots⟩ := ol
        simp only at hcl hdl
        subst hcl; subst hdl
        have hol' : (s.heap.push { cls := .type "set", dict := none, data := .set #[] 0 (.fresh 0 0 (!w.params.followText "set-order")) }).get? l = some { cls := .type "list", dict := odict, data := .seq items nl, slots := oslots } := Heap.get?_push_of_some _ hol
        have hsls := PySem.F.sub_list_set
        have hslf := PySem.F.sub_list_frozenset
        have hne : (Value.type "list" == Value.type "dict") = false := by decide
        have hl1 : (s.heap.push { cls := .type "set", dict := none, data := .set #[] 0 (.fresh 0 0 (!w.params.followText "set-order")) }).IsList l items := ⟨_, hol', rfl, nl, rfl⟩
        unfold Builtin.«set.__init__» noKeywords Builtin.Frozenset.updateFrom
        generalize hPI : pyIter = PI
        wp_walk
        subst hPI
        refine wpAny_pyIter_list hl1 ?_
        refine wpAny_bind (wpAny_runValue ?_)
        have hlS : l < s.heap.objs.size := Heap.lt_size hol
        have hh3 : A.in1.in1.in1.handled = none := by simp [hh]
        have hz1 : (s.heap.push { cls := .type "set", dict := none, data := .set #[] 0 (.fresh 0 0 (!w.params.followText "set-order")) }).objs.size = s.heap.objs.size + 1 := Heap.size_push ..
        have hneI : l ≠ (s.heap.push { cls := .type "set", dict := none, data := .set #[] 0 (.fresh 0 0 (!w.params.followText "set-order")) }).objs.size := by
          rw [Heap.size_push]; exact Nat.ne_of_lt (Nat.lt_succ_of_lt hlS)
        have hSf : s.heap.objs.size ∉ [(s.heap.push { cls := .type "set", dict := none, data := .set #[] 0 (.fresh 0 0 (!w.params.followText "set-order")) }).objs.size, l] := by
          rw [Heap.size_push]; simp only [List.mem_cons, List.mem_singleton, List.not_mem_nil, or_false, not_or]
          exact ⟨Nat.ne_of_lt (Nat.lt_succ_self _), Nat.ne_of_gt hlS⟩
        have hval : ∀ (i : Nat) (v : Value), items[i]? = some v → ∃ k t, ns[i]? = some k ∧ v = .int k t := fun i v hv => by
          have hi : i < ns.length := by rw [← hisz]; exact (Array.getElem?_eq_some_iff.mp hv).1
          obtain ⟨t, e⟩ := PyProof.Rows.IntsAre.int_at hit i v (by rw [Array.getElem?_toList]; exact hv)
          refine ⟨ns[i], t, List.getElem?_eq_getElem hi, ?_⟩
          rw [e, List.getD_eq_getElem?_getD, List.getElem?_eq_getElem hi] <;> rfl
        refine set_update_ints ((Walks.list hh3 _ l hneI items).toS) s.heap.objs.size
          hSf ns hisz hb hval (items.size - 0) 0 _ (by omega) (Nat.zero_le _)
          ⟨⟨_, Heap.get?_push_size _ rfl, rfl, rfl⟩, (hl1.push _)⟩ ?hS0 ?hR
        case hS0 =>
          have hget : ((s.heap.push { cls := .type "set", dict := none, data := .set #[] 0 (.fresh 0 0 (!w.params.followText "set-order")) }).push { cls := .type "list_iterator", data := .fields #[.ref l, .int 0 0] }).get? s.heap.objs.size
              = some { cls := .type "set", dict := none, data := .set #[] 0 (.fresh 0 0 (!w.params.followText "set-order")) } := Heap.get?_push_of_some _ hS
          exact ⟨0, Nat.le_refl 0, setR_new_at hget⟩
        case hR =>
          intro s' c' hm hc' hS'
          obtain ⟨h', g2, d', tk', os'⟩ := s'
          have eg : g2 = s.gens := hm.gens
          have ed : d' = s.drawn := hm.drawn
          have eo : os' = s.os := hm.os
          subst eg; subst ed; subst eo
          show wpAny _ _ _ _ _ _
          refine wpAny_pure ?_
          show wpAny _ _ (ret Value.none) _ _ _
          rw [hisz] at hc'
          refine wpAny_pure ⟨rfl, h', tk', c', rfl, hS', hc', fun b o e => ?_⟩
          have hb0 : b < s.heap.objs.size := Heap.lt_size e
          have hb1 : b ≠ s.heap.objs.size := Nat.ne_of_lt hb0
          have hb2 : b ≠ (s.heap.push { cls := .type "set", dict := none, data := .set #[] 0 (.fresh 0 0 (!w.params.followText "set-order")) }).objs.size := by
            rw [Heap.size_push]; exact Nat.ne_of_lt (Nat.lt_succ_of_lt hb0)
          exact hm.heap b o (by simp only [List.mem_cons, List.mem_singleton, List.not_mem_nil, or_false, not_or]; exact ⟨hb1, hb2⟩) (Heap.get?_push_of_some _ (Heap.get?_push_of_some _ e))
      · cases r₂ with
        | error e => exact hr₂
        | ok fl₂ =>
          cases fl₂ with
          | ret r =>
            obtain ⟨rfl, h', tk, c', rfl, hS', hc', hk'⟩ := hr₂
            repeat (any_goals (first | assumption | wp_step))
            exact h _ _ _ hS' hc' hk'
          | _ => exact hr₂.elim
    | _ => exact hr.elim
set_option maxRecDepth 100000 in
set_option maxHeartbeats 3200000 in
theorem call_set_tupI {l : Addr} {items : Array Value} (ns : List Int) {Q : Value → Shared → Prop} (hh : A.handled = none) (hl : s.heap.IsTuple l items) (hit : IntsAre items.toList ns) (hb : ns.length + 1 < scanBound)
    (h : ∀ (h' : Heap) (tk c : Nat), SetR w h' s.heap.objs.size (fun j => decide (j ∈ ns)) c → c ≤ ns.length → (∀ b o, s.heap.get? b = some o → h'.get? b = some o) → Q (.ref s.heap.objs.size) { s with heap := h', toks := tk }) :
    wpAny (model P w) A (call (.type "set") [.ref l]) Q E s := by
  have hisz : items.size = ns.length := by
    have q := IntsAre.length hit
    rw [Array.length_toList] at q
    exact q
  obtain ⟨c, tl, hmro⟩ := PySem.F.called_set.mro
  have hmade := PySem.F.called_set.made
  have hsub := PySem.F.called_set.sub
  refine wpAny_call (codeAny_of_tree ?_)
  show wpAny _ _ (callAny (.type "set") _) _ _ _
  refine wpAny_pure ⟨Code.quiet_builtin _ (by decide +kernel), codeAny_builtin PySem.F.entry_type_call ?_⟩
  rw [Around.under_plain (weight_type_call_type "set" [.ref l] []) rfl]
  have h1 := PySem.F.called_set.notType
  have h2 := PySem.F.called_set.canCreate
  have hct := PySem.F.typeCall_set_1 (.ref l)
  repeat (any_goals (first | assumption | wp_step))
  refine codeAny_mono (code_set_led1 (.ref l) (E := E) (Q₁ := fun obj s₁ => obj = .ref s.heap.objs.size ∧ s₁ = { s with heap := s.heap.push { cls := .type "set", dict := none, data := .set #[] 0 (.fresh 0 0 (!w.params.followText "set-order")) } }) ⟨rfl, rfl⟩) fun r s₁ hr => ?_
  cases r with
  | error e => exact hr
  | ok fl =>
    cases fl with
    | ret obj =>
      obtain ⟨rfl, rfl⟩ := hr
      have hS : (s.heap.push { cls := .type "set", dict := none, data := .set #[] 0 (.fresh 0 0 (!w.params.followText "set-order")) }).get? s.heap.objs.size = some { cls := .type "set", dict := none, data := .set #[] 0 (.fresh 0 0 (!w.params.followText "set-order")) } := Heap.get?_push_size _ rfl
      have hT : Shared.TypeIs { s with heap := s.heap.push { cls := .type "set", dict := none, data := .set #[] 0 (.fresh 0 0 (!w.params.followText "set-order")) } } (.ref s.heap.objs.size) "set" := ⟨_, hS, rfl⟩
      have hli := PySem.F.called_set.init.lookup
      have hbi := PySem.F.called_set.init.bind (.ref s.heap.objs.size)
      repeat (any_goals (first | assumption | wp_step))
      refine codeAny_mono (codeAny_call_builtin (R := wants (fun r s₂ => r = .none ∧ ∃ h' tk c, s₂ = { s with heap := h', toks := tk } ∧ SetR w h' s.heap.objs.size (fun j => decide (j ∈ ns)) c ∧ c ≤ ns.length ∧
          (∀ b o, s.heap.get? b = some o → h'.get? b = some o)) E) PySem.F.called_set.init.plain PySem.F.entry_set_init (check_set_init_1 hT ?_)) fun r₂ s₂ hr₂ => ?_
      · obtain ⟨ol, hol, hcl, nl, hdl⟩ := hl
        obtain ⟨ocls, odict, odata, oslots⟩ := ol
        simp only at hcl hdl
        subst hcl; subst hdl
        have hol' : (s.heap.push { cls := .type "set", dict := none, data := .set #[] 0 (.fresh 0 0 (!w.params.followText "set-order")) }).get? l = some { cls := .type "tuple", dict := odict, data := .seq items nl, slots := oslots } := Heap.get?_push_of_some _ hol
        have hsls := PySem.F.sub_tuple_set
        have hslf := PySem.F.sub_tuple_frozenset
        have hne : (Value.type "tuple" == Value.type "dict") = false := by decide
        have hl1 : (s.heap.push { cls := .type "set", dict := none, data := .set #[] 0 (.fresh 0 0 (!w.params.followText "set-order")) }).IsTuple l items := ⟨_, hol', rfl, nl, rfl⟩
        unfold Builtin.«set.__init__» noKeywords Builtin.Frozenset.updateFrom
        generalize hPI : pyIter = PI
        wp_walk
        subst hPI
        refine wpAny_pyIter_tuple hl1 ?_
        refine wpAny_bind (wpAny_runValue ?_)
        have hlS : l < s.heap.objs.size := Heap.lt_size hol
        have hh3 : A.in1.in1.in1.handled = none := by simp [hh]
        have hz1 : (s.heap.push { cls := .type "set", dict := none, data := .set #[] 0 (.fresh 0 0 (!w.params.followText "set-order")) }).objs.size = s.heap.objs.size + 1 := Heap.size_push ..
        have hneI : l ≠ (s.heap.push { cls := .type "set", dict := none, data := .set #[] 0 (.fresh 0 0 (!w.params.followText "set-order")) }).objs.size := by
          rw [Heap.size_push]; exact Nat.ne_of_lt (Nat.lt_succ_of_lt hlS)
        have hSf : s.heap.objs.size ∉ [(s.heap.push { cls := .type "set", dict := none, data := .set #[] 0 (.fresh 0 0 (!w.params.followText "set-order")) }).objs.size, l] := by
          rw [Heap.size_push]; simp only [List.mem_cons, List.mem_singleton, List.not_mem_nil, or_false, not_or]
          exact ⟨Nat.ne_of_lt (Nat.lt_succ_self _), Nat.ne_of_gt hlS⟩
        have hval : ∀ (i : Nat) (v : Value), items[i]? = some v → ∃ k t, ns[i]? = some k ∧ v = .int k t := fun i v hv => by
          have hi : i < ns.length := by rw [← hisz]; exact (Array.getElem?_eq_some_iff.mp hv).1
          obtain ⟨t, e⟩ := PyProof.Rows.IntsAre.int_at hit i v (by rw [Array.getElem?_toList]; exact hv)
          refine ⟨ns[i], t, List.getElem?_eq_getElem hi, ?_⟩
          rw [e, List.getD_eq_getElem?_getD, List.getElem?_eq_getElem hi] <;> rfl
        refine set_update_ints ((Walks.tuple hh3 _ l hneI items).toS) s.heap.objs.size
          hSf ns hisz hb hval (items.size - 0) 0 _ (by omega) (Nat.zero_le _)
          ⟨⟨_, Heap.get?_push_size _ rfl, rfl, rfl⟩, (hl1.push _)⟩ ?hS0 ?hR
        case hS0 =>
          have hget : ((s.heap.push { cls := .type "set", dict := none, data := .set #[] 0 (.fresh 0 0 (!w.params.followText "set-order")) }).push { cls := .type "tuple_iterator", data := .fields #[.ref l, .int 0 0] }).get? s.heap.objs.size
              = some { cls := .type "set", dict := none, data := .set #[] 0 (.fresh 0 0 (!w.params.followText "set-order")) } := Heap.get?_push_of_some _ hS
          exact ⟨0, Nat.le_refl 0, setR_new_at hget⟩
        case hR =>
          intro s' c' hm hc' hS'
          obtain ⟨h', g2, d', tk', os'⟩ := s'
          have eg : g2 = s.gens := hm.gens
          have ed : d' = s.drawn := hm.drawn
          have eo : os' = s.os := hm.os
          subst eg; subst ed; subst eo
          show wpAny _ _ _ _ _ _
          refine wpAny_pure ?_
          show wpAny _ _ (ret Value.none) _ _ _
          rw [hisz] at hc'
          refine wpAny_pure ⟨rfl, h', tk', c', rfl, hS', hc', fun b o e => ?_⟩
          have hb0 : b < s.heap.objs.size := Heap.lt_size e
          have hb1 : b ≠ s.heap.objs.size := Nat.ne_of_lt hb0
          have hb2 : b ≠ (s.heap.push { cls := .type "set", dict := none, data := .set #[] 0 (.fresh 0 0 (!w.params.followText "set-order")) }).objs.size := by
            rw [Heap.size_push]; exact Nat.ne_of_lt (Nat.lt_succ_of_lt hb0)
          exact hm.heap b o (by simp only [List.mem_cons, List.mem_singleton, List.not_mem_nil, or_false, not_or]; exact ⟨hb1, hb2⟩) (Heap.get?_push_of_some _ (Heap.get?_push_of_some _ e))
      · cases r₂ with
        | error e => exact hr₂
        | ok fl₂ =>
          cases fl₂ with
          | ret r =>
            obtain ⟨rfl, h', tk, c', rfl, hS', hc', hk'⟩ := hr₂
            repeat (any_goals (first | assumption | wp_step))
            exact h _ _ _ hS' hc' hk'
          | _ => exact hr₂.elim
    | _ => exact hr.elim
end
section
variable {X : Cx} {W : WX} {a : Expr} {pa : PTE} {p p2 pos pos2 : Pos}
def rSetI (K : PySem.W.Frag) (w : World) : List V → Hp → VK → Prop := fun xs H Q => ∃ (p : Addr) (ns : List Int), xs = [V.ref p] ∧ (SqL K H p (ns.map V.int) ∨ SqT K H p (ns.map V.int)) ∧ ns.length ≤ 1000 ∧ ∀ D c, H D = none → c ≤ ns.length → Q (.ref D) (upd H D (SetO w D (fun j => decide (j ∈ ns)) c))
theorem cr_setI (hc : X.calm = true) : CallR X (.type "set") (rSetI X.K X.w) := by
  intro pins s σ H xs us Q I r h
  obtain ⟨p, ns, rfl, hs, hl, q⟩ := h
  rw [Vals.ref1 r]
  have hb : ns.length + 1 < scanBound := by
    have : (1000 : Nat) + 1 < scanBound := by decide
    omega
  have hn : H s.heap.objs.size = none := I.hok.fresh (Nat.le_refl _)
  rcases hs with hs | hs
  · obtain ⟨its, rv, pl, hz⟩ := I.list hs
    have hi : IntsAre its.toArray.toList ns := ints_of_vals rv
    refine call_set_lstI ns (I.ok.hd hc) (show s.heap.IsList p its.toArray from pl.isList) hi hb fun h' tk c R hcn k => ?_
    exact ⟨.ref _, upd H s.heap.objs.size (SetO X.w s.heap.objs.size (fun j => decide (j ∈ ns)) c), I.laid (t' := tk) (fun b u e => k b u e) (Nat.le_refl _) (setO_new R), rfl, q _ c hn hcn⟩
  · obtain ⟨its, rv, pl, hz⟩ := I.tuple hs
    have hi : IntsAre its.toArray.toList ns := ints_of_vals rv
    refine call_set_tupI ns (I.ok.hd hc) (show s.heap.IsTuple p its.toArray from pl) hi hb fun h' tk c R hcn k => ?_
    exact ⟨.ref _, upd H s.heap.objs.size (SetO X.w s.heap.objs.size (fun j => decide (j ∈ ns)) c), I.laid (t' := tk) (fun b u e => k b u e) (Nat.le_refl _) (setO_new R), rfl, q _ c hn hcn⟩
def dSortL (pe : PTE) : PTA := fun w ρ M q => pe w ρ M fun d M1 => ∃ ns : List Int, (d = .lst (ns.map .int) ∨ d = .tup (ns.map .int)) ∧ ns.length < 64 ∧ ∀ ms : List Int, ms.Pairwise (· < ·) → (∀ k, k ∈ ms ↔ k ∈ ns) → ms.length < 64 → q (ms.map .int) M1
theorem rpl_ints {K : PySem.W.Frag} {F : Hp} : ∀ {ns : List Int} {xs : List V}, RpL K F (ns.map .int) xs → xs = ns.map V.int
  | [], xs, h => h
  | n :: r, xs, h => by
    obtain ⟨v, t, e1, h1, h2⟩ := h
    have e2 : v = V.int n := h1
    rw [e1, e2, rpl_ints h2]; rfl
theorem dl_sortSetL (hc : X.calm = true) (hgs : Gl X "set") (hms : X.mg "set" = none) (hg : Gl X "sorted") (hm : X.mg "sorted" = none) (ha : DO X W a pa)
    (he : starEach [a] X.env = (false, eval a X.env) :: starEach [] X.env := by rfl) (hpl : (backTo pos (starEach [] X.env)).any (·.1) = false := by rfl)
    (he2 : starEach [Expr.Call (.Name "set" p) [a] [] pos] X.env = (false, eval (.Call (.Name "set" p) [a] [] pos) X.env) :: starEach [] X.env := by rfl) (hpl2 : (backTo pos2 (starEach [] X.env)).any (·.1) = false := by rfl) :
    DL X W (.Call (.Name "sorted" p2) [.Call (.Name "set" p) [a] [] pos] [] pos2) (dSortL pa) :=
  pe_imp (pe_callB (cr_sortedSet hc) hg hm (by decide +kernel) (pa_cons (pe_callTy (cr_setI hc) hgs hms (by decide +kernel) (pa_cons ha pa_nil he) (by decide) (by decide) he hpl) pa_nil he2) (by decide) (by decide) he2 hpl2) fun σ H Q ⟨g, ρ, M, F, O, q, w, A, pr, hw, k⟩ => by
    refine ⟨g, ρ, M, F, O, _, w, A, pr, hw, fun v H1 F1 O1 M1 d A1 s1 r1 q1 => ?_⟩
    obtain ⟨ns, hd, hl, q1⟩ := q1
    obtain ⟨pp, e1, hs⟩ : ∃ pp, v = V.ref pp ∧ (SqL X.K H1 pp (ns.map V.int) ∨ SqT X.K H1 pp (ns.map V.int)) := by
      rcases hd with rfl | rfl
      · obtain ⟨pp, xs, e1, h1, rl⟩ := r1.lst A1
        have ex := rpl_ints rl
        subst ex
        exact ⟨pp, e1, .inl (.inl (.inl h1))⟩
      · obtain ⟨pp, xs, e1, h1, rl⟩ := r1.tup A1
        have ex := rpl_ints rl
        subst ex
        exact ⟨pp, e1, .inr h1⟩
    refine ⟨pp, ns, by rw [e1], hs, by omega, fun D c hD hcn => ?_⟩
    have A2 := A1.laid (o := SetO X.w D (fun j => decide (j ∈ ns)) c) hD
    refine ⟨D, _, c, rfl, upd_same, by omega, fun ms p' h2 h3 h4 h5 => ?_⟩
    have q3 := q1 ms h2 (fun j => (h3 j).trans decide_eq_true_iff) (by omega)
    exact k p' (ms.map V.int) _ F1 O1 M1 _ (A2.laid h5) s1 upd_same (RpL.of_ints ms) (A2.f0 h5) (A2.o0 h5) (A2.g0 h5) q3
end
end Px
set_option Elab.async false
set_option linter.all false
set_option maxRecDepth 100000
namespace Px
open PySem PySem.Spec PyProof.Rows L2
section
variable {X : Cx} {W : WX} {a b o e : Expr} {pa pb po pe : PTE} {p p2 pos pos2 apos : Pos}
theorem rgV_ints (lo hi : Int) : rgV lo hi = ((List.range (hi - lo).toNat).map fun i : Nat => lo + (i : Int)).map V.int := by
  unfold rgV
  rw [List.map_map]; rfl
theorem rngD_ints (lo : Int) (n : Nat) : rngD lo n = ((List.range n).map fun i : Nat => lo + (i : Int)).map D.int := by
  unfold rngD
  rw [List.map_map]; rfl
def dLRg1 (pe : PTE) : PTA := fun w ρ M q => pe w ρ M fun d M1 => asIn d fun n => (-1000000 ≤ n ∧ n ≤ 1000000) ∧ q (rngD 0 n.toNat) M1
theorem asIn_is {d : D} {k : Int → Prop} (h : asIn d k) : ∃ i, d = .int i ∧ k i := by
  cases d with
  | int i => exact ⟨i, rfl, h⟩
  | _ => exact (show False from h).elim
theorem dl_lrg1 (hc : X.calm = true) (hgl : Gl X "list") (hml : X.mg "list" = none) (hg : Gl X "range") (hm : X.mg "range" = none) (ha : DE X W a pa)
    (na : starEach [a] X.env = (false, eval a X.env) :: starEach [] X.env := by rfl) (na2 : starEach [Expr.Call (.Name "range" p) [a] [] pos] X.env = (false, eval (.Call (.Name "range" p) [a] [] pos) X.env) :: starEach [] X.env := by rfl) :
    DL X W (.Call (.Name "list" p2) [.Call (.Name "range" p) [a] [] pos] [] pos2) (dLRg1 pa) :=
  pe_imp (pe_listRg hc hgl hml (prg_1 hg hm ha na) na2) fun σ H Q ⟨g, ρ, M, F, O, q, w, A, pr, hw, k⟩ => by
    refine ⟨g, ρ, M, F, O, _, w, A, pr, hw, fun v H1 F1 O1 M1 d A1 s1 r1 q1 => ?_⟩
    obtain ⟨n, rfl, ⟨b0, b1⟩, q2⟩ := asIn_is q1
    refine ⟨n, r1, ⟨by decide, by decide, by omega, by omega, by omega⟩, fun D hD => ?_⟩
    rw [rgV_ints, Int.sub_zero]
    rw [rngD_ints] at q2
    exact k D _ _ F1 O1 M1 _ (A1.laid hD) s1 upd_same (RpL.of_ints _) (A1.f0 hD) (A1.o0 hD) (A1.g0 hD) q2
end
end Px
set_option Elab.async false
set_option linter.all false
set_option maxRecDepth 100000
namespace Px
open PySem PySem.Spec PyProof.Rows L2
section
variable {X : Cx} {W : WX} {k n : Nat} {f C : Addr} {fd : FuncData} {ps ks : List Str} {sp : PSp} {x : Str} {p pos : Pos} {kws : List Keyword} {ix : List Nat} {pl : PTA}
end
end Px
set_option Elab.async false
set_option linter.all false
set_option maxRecDepth 100000
namespace Px
open PySem PySem.Spec PyProof.Rows L2
section
variable {X : Cx} {W : WX} {k n : Nat} {f C : Addr} {fd : FuncData} {ps : List Str} {sp : PSp} {pos : Pos} {a b : Expr} {pa pb : PTE}
end
end Px
set_option Elab.async false
set_option linter.all false
set_option maxRecDepth 100000
namespace Px
open PySem PySem.Spec PyProof.Rows L2
def chS (s : Str) : List D := s.cps.toList.map fun c => .str ⟨#[c]⟩
section
variable {X : Cx} {W : WX} {a b e i : Expr} {tg : Expr} {pa pb pe : PTE} {pos : Pos}
end
end Px
set_option Elab.async false
set_option linter.all false
set_option maxRecDepth 100000
namespace Px
open PySem PySem.Spec PyProof.Rows L2
section
variable {X : Cx} {W : WX} {k n : Nat} {f C : Addr} {fd : FuncData} {ps : List Str} {sp : PSp} {pos p : Pos} {a : Expr} {pa : PTE}
end
end Px
set_option Elab.async false
set_option linter.all false
set_option maxRecDepth 100000
namespace Px
open PySem PySem.Spec PyProof.Rows L2
section
variable {K : PySem.W.Frag} {X : Cx} {W : WX} {a b : Expr} {pa pb : PTE} {pos : Pos}
end
end Px
set_option Elab.async false
set_option linter.all false
set_option maxRecDepth 100000
namespace Px
open PySem PySem.Spec PyProof.Rows L2
section
variable {X : Cx} {W : WX} {a b : Expr} {pa pb : PTE} {pos : Pos}
end
end Px
set_option Elab.async false
set_option linter.all false
set_option maxRecDepth 100000
namespace Px
open PySem PySem.Spec PyProof.Rows L2
def SOk (s : Str) : Prop := PyData.strOk s = true ∧ PyData.leavesShort 70 (.str s) = true ∧ PyData.weight (.str s) ≤ 211
def Gd (L B : Nat) : Nat → D → Prop
  | _, .non => True
  | _, .bl _ => True
  | _, .int i => i.natAbs ≤ B
  | _, .str s => SOk s
  | _, .dic [] [] => True
  | n + 1, .tup l => l.length ≤ L ∧ ∀ x ∈ l, Gd L B n x
  | n + 1, .lst l => l.length ≤ L ∧ ∀ x ∈ l, Gd L B n x
  | _, _ => False
theorem Gd.mono {L B L' B' : Nat} (hL : L ≤ L') (hB : B ≤ B') : ∀ {n n' : Nat} {d : D}, n ≤ n' → Gd L B n d → Gd L' B' n' d
  | _, _, .non, _, _ => by simp [Gd]
  | _, _, .bl _, _, _ => by simp [Gd]
  | _, _, .int i, _, h => by simp only [Gd] at h ⊢; omega
  | _, _, .str s, _, h => by simp only [Gd] at h ⊢; exact h
  | _, _, .dic [] [], _, _ => by simp [Gd]
  | n + 1, n' + 1, .tup l, hn, h => by
    simp only [Gd] at h ⊢
    exact ⟨by omega, fun x hx => Gd.mono hL hB (by omega) (h.2 x hx)⟩
  | n + 1, n' + 1, .lst l, hn, h => by
    simp only [Gd] at h ⊢
    exact ⟨by omega, fun x hx => Gd.mono hL hB (by omega) (h.2 x hx)⟩
  | 0, _, .tup _, _, h => by simp [Gd] at h
  | 0, _, .lst _, _, h => by simp [Gd] at h
  | _ + 1, 0, .tup _, hn, _ => by omega
  | _ + 1, 0, .lst _, hn, _ => by omega
  | _, _, .dic (_ :: _) _, _, h => by simp [Gd] at h
  | _, _, .dic [] (_ :: _), _, h => by simp [Gd] at h
  | _, _, .obj _ _ _, _, h => by simp [Gd] at h
  | _, _, .raw _, _, h => by simp [Gd] at h
  | _, _, .scr _, _, h => by simp [Gd] at h
  | _, _, .clo .., _, h => by simp [Gd] at h
  | _, _, .fnc .., _, h => by simp [Gd] at h
  | _, _, .exv .., _, h => by simp [Gd] at h
theorem Gd.plain {L B n : Nat} {d : D} (h : Gd L B n d) : plain d = true := by
  cases d with
  | dic a b => rcases a with _ | ⟨x, y⟩ <;> rcases b with _ | ⟨z, u⟩ <;> first | rfl | (exfalso; revert h; simp [Gd]; done)
  | _ => first | rfl | (exfalso; revert h; simp [Gd]; done)
theorem Gd.tup {L B n : Nat} {l : List D} (h : Gd L B n (.tup l)) : ∃ m, n = m + 1 ∧ l.length ≤ L ∧ ∀ x ∈ l, Gd L B m x := by
  cases n with
  | zero => simp [Gd] at h
  | succ m => simp only [Gd] at h; exact ⟨m, rfl, h⟩
theorem Gd.lst {L B n : Nat} {l : List D} (h : Gd L B n (.lst l)) : ∃ m, n = m + 1 ∧ l.length ≤ L ∧ ∀ x ∈ l, Gd L B m x := by
  cases n with
  | zero => simp [Gd] at h
  | succ m => simp only [Gd] at h; exact ⟨m, rfl, h⟩
theorem Gd.parts {L B n : Nat} {d : D} (h : Gd L B n d) : parts d = true := by
  cases d with
  | tup l =>
    obtain ⟨m, _, _, h2⟩ := h.tup
    exact List.all_eq_true.mpr fun x hx => (h2 x hx).plain
  | _ => rfl
end Px
set_option Elab.async false
set_option linter.all false
set_option maxRecDepth 100000
namespace Px
open PySem PySem.Spec PyProof.Rows L2
mutual
def sz : D → Nat
  | .tup l => szL l + 1
  | .lst l => szL l + 1
  | .int i => i.natAbs.log2 + 2
  | .str s => s.cps.size + 1
  | _ => 1
def szL : List D → Nat
  | [] => 0
  | d :: r => sz d + szL r
end
end Px
set_option Elab.async false
set_option linter.all false
set_option maxRecDepth 100000
namespace Px
open PySem PySem.Spec PyProof.Rows L2
mutual
def toE : D → PyData
  | .tup l => .tuple (toEL l)
  | .lst l => .list (toEL l)
  | .dic _ _ => .dict []
  | .int i => .int i
  | .str s => .str s
  | .bl b => .bool b
  | _ => .none
def toEL : List D → List PyData
  | [] => []
  | d :: ds => toE d :: toEL ds
end
def okE : Nat → D → Bool
  | _, .non => true
  | _, .bl _ => true
  | _, .int _ => true
  | _, .str s => PyData.strOk s
  | _, .dic [] [] => true
  | n + 1, .tup l => l.all (okE n)
  | n + 1, .lst l => l.all (okE n)
  | _, _ => false
mutual
inductive DpE (K : PySem.W.Frag) (H : Hp) : V → PyData → Prop
  | non : DpE K H .non .none
  | bl (b : Bool) : DpE K H (.bl b) (.bool b)
  | int (i : Int) : DpE K H (.int i) (.int i)
  | str (x : Str) : DpE K H (.str x) (.str x)
  | lst {a : Addr} {xs : List V} {ds : List PyData} : SqL K H a xs → DpEAll K H xs ds → DpE K H (.ref a) (.list ds)
  | tup {a : Addr} {xs : List V} {ds : List PyData} : SqT K H a xs → DpEAll K H xs ds → DpE K H (.ref a) (.tuple ds)
  | dic {a : Addr} : Rd H a (.dK []) → DpE K H (.ref a) (.dict [])
inductive DpEAll (K : PySem.W.Frag) (H : Hp) : List V → List PyData → Prop
  | nil : DpEAll K H [] []
  | cons {v : V} {vs : List V} {d : PyData} {ds : List PyData} : DpE K H v d → DpEAll K H vs ds → DpEAll K H (v :: vs) (d :: ds)
end
mutual
inductive RdE (h : Heap) : Value → PyData → Prop
  | none : RdE h .none .none
  | bool (b : Bool) : RdE h (.bool b) (.bool b)
  | int (i : Int) (t : Tok) : RdE h (.int i t) (.int i)
  | str (x : Str) (t : Tok) : RdE h (.str x t) (.str x)
  | list {a : Addr} {o : Obj} {vs : Array Value} {n : Nat} {xs : List PyData} : h.get? a = some o → o.cls = .type "list" → o.data = .seq vs n → RdEAll h vs.toList xs → RdE h (.ref a) (.list xs)
  | tuple {a : Addr} {o : Obj} {vs : Array Value} {n : Nat} {xs : List PyData} : h.get? a = some o → o.cls = .type "tuple" → o.data = .seq vs n → RdEAll h vs.toList xs → RdE h (.ref a) (.tuple xs)
  | dict {a : Addr} {o : Obj} {n : Nat} : h.get? a = some o → o.cls = .type "dict" → o.data = .dict #[] n → (a == sysModules) = false → RdE h (.ref a) (.dict [])
inductive RdEAll (h : Heap) : List Value → List PyData → Prop
  | nil : RdEAll h [] []
  | cons {v : Value} {vs : List Value} {d : PyData} {ds : List PyData} : RdE h v d → RdEAll h vs ds → RdEAll h (v :: vs) (d :: ds)
end
section
variable {h₀ : Heap}
mutual
theorem RdE.reads : ∀ {v : Value} {d : PyData}, RdE h₀ v d → ∃ as, Reads h₀ v d as
  | _, _, .none => ⟨_, .none⟩
  | _, _, .bool b => ⟨_, .bool b⟩
  | _, _, .int i t => ⟨_, .int i t⟩
  | _, _, .str x t => ⟨_, .str x t⟩
  | _, _, .list h1 h2 h3 h4 => let ⟨_, r⟩ := RdEAll.reads h4; ⟨_, .list h1 h2 h3 r⟩
  | _, _, .tuple h1 h2 h3 h4 => let ⟨_, r⟩ := RdEAll.reads h4; ⟨_, .tuple h1 h2 h3 r⟩
  | _, _, .dict h1 h2 h3 _ => ⟨_, .dict (kvs := []) (as := []) (bs := []) h1 h2 h3 .nil .nil⟩
theorem RdEAll.reads : ∀ {vs : List Value} {ds : List PyData}, RdEAll h₀ vs ds → ∃ as, ReadsAll h₀ vs ds as
  | _, _, .nil => ⟨_, .nil⟩
  | _, _, .cons r k => let ⟨_, x⟩ := RdE.reads r; let ⟨_, y⟩ := RdEAll.reads k; ⟨_, .cons x y⟩
end
variable {prog : Program} {w : World}
mutual
theorem RdE.shows : ∀ {v : Value} {d : PyData}, RdE h₀ v d → d.showable = true → d.shown.length ≤ sizeLine → ∃ bs, ReadAtMost h₀ d.depth bs ∧ ReprK prog w bs h₀ d.depth v d.shown
  | _, _, .none, _, _ => ⟨[], (fun _ z => nomatch z), by simp only [PyData.shown]; exact .of_is ReprIs.none _ _ _⟩
  | _, _, .bool b, _, _ => ⟨[], (fun _ z => nomatch z), by simp only [PyData.shown]; exact .of_is (ReprIs.bool b) _ _ _⟩
  | _, _, .int i t, hs, _ => ⟨[], (fun _ z => nomatch z), by simp only [PyData.shown]; exact .of_is (ReprIs.int t (by simpa [PyData.showable] using hs)) _ _ _⟩
  | _, _, .str x t, _, hz => ⟨[], (fun _ z => nomatch z), by simp only [PyData.shown]; exact .of_is (ReprIs.str x t (by simpa only [PyData.shown] using hz)) _ _ _⟩
  | _, _, .list (a := a) (vs := vs) (xs := xs) h1 h2 h3 h4, hs, hz => by
    have hz2 : (listText (PyData.shownAll xs)).length ≤ sizeLine := by simpa only [PyData.shown] using hz
    obtain ⟨bs, b1, b2⟩ := RdEAll.shows h4 (by simpa [PyData.showable] using hs) fun t ht => Nat.le_trans (listText_mem_le ht) hz2
    obtain ⟨as, r0⟩ := RdEAll.reads h4
    have r := Reads.list h1 h2 h3 r0
    have out := not_mem_of_deeper r (by simp only [PyData.depth]; omega) b1
    refine ⟨a :: bs, ReadAtMost.cons r (by simp only [PyData.depth]; omega) b1, ?_⟩
    simp only [PyData.depth, PyData.shown]
    obtain ⟨l⟩ := vs
    cases l with
    | nil =>
      cases (show RdEAll h₀ [] xs from h4)
      simp only [PyData.shownAll, listText_nil]
      exact ReprK.listEmpty h1 h2 h3
    | cons y l => exact ReprK.list h1 h2 h3 out (by simpa using b2.length_eq) fun i z e => b2.item i z (by simpa using e)
  | _, _, .tuple (a := a) (xs := xs) h1 h2 h3 h4, hs, hz => by
    have hz2 : (tupleText (PyData.shownAll xs)).length ≤ sizeLine := by simpa only [PyData.shown] using hz
    obtain ⟨bs, b1, b2⟩ := RdEAll.shows h4 (by simpa [PyData.showable] using hs) fun t ht => Nat.le_trans (tupleText_mem_le ht) hz2
    obtain ⟨as, r0⟩ := RdEAll.reads h4
    have r := Reads.tuple h1 h2 h3 r0
    have out := not_mem_of_deeper r (by simp only [PyData.depth]; omega) b1
    refine ⟨a :: bs, ReadAtMost.cons r (by simp only [PyData.depth]; omega) b1, ?_⟩
    simp only [PyData.depth, PyData.shown]
    exact ReprK.tuple h1 h2 h3 out b2
  | _, _, .dict (a := a) h1 h2 h3 hsys, hs, hz => by
    have r : Reads h₀ (.ref a) (.dict []) _ := .dict (kvs := []) (as := []) (bs := []) h1 h2 h3 .nil .nil
    refine ⟨[a], ReadAtMost.cons r (n := 0) (Nat.zero_le _) (fun _ z => nomatch z), ?_⟩
    simp only [PyData.depth, PyData.shown, PyData.shownKv_eq]
    exact ReprK.dict h1 h2 h3 hsys (List.not_mem_nil) ReprEntriesK.nil
theorem RdEAll.shows : ∀ {vs : List Value} {ds : List PyData}, RdEAll h₀ vs ds → PyData.showableAll ds = true → (∀ t ∈ PyData.shownAll ds, t.length ≤ sizeLine) → ∃ bs, ReadAtMost h₀ (PyData.depthAll ds) bs ∧ ReprAllK prog w bs h₀ (PyData.depthAll ds) vs (PyData.shownAll ds)
  | _, _, .nil, _, _ => ⟨[], (fun _ z => nomatch z), by simp only [PyData.shownAll]; exact .nil⟩
  | _, _, .cons (d := d) (ds := ds) r k, hs, hz => by
    obtain ⟨s1, s2⟩ : d.showable = true ∧ PyData.showableAll ds = true := by simpa [PyData.showableAll] using hs
    obtain ⟨b1, x1, x2⟩ := RdE.shows r s1 (hz _ (by simp only [PyData.shownAll]; exact List.mem_cons_self ..))
    obtain ⟨b2, y1, y2⟩ := RdEAll.shows k s2 fun t ht => hz t (by simp only [PyData.shownAll]; exact List.mem_cons_of_mem _ ht)
    refine ⟨b1 ++ b2, ?_, ?_⟩
    · simp only [PyData.depthAll]
      exact (x1.mono (Nat.le_max_left _ _)).append (y1.mono (Nat.le_max_right _ _))
    · simp only [PyData.depthAll, PyData.shownAll]
      exact .cons ((x2.more fun b hb => List.mem_append_left _ hb).level_le (Nat.le_max_left _ _)) (y2.more_le (fun b hb => List.mem_append_right _ hb) (Nat.le_max_right _ _))
end
end
section
variable {h₀ : Heap} {prog : Program} {w : World} {a : Addr} {d : PyData}
end
theorem pairs_nil {κ : Type} [DecidableEq κ] {prog : Program} {w : World} {knd : _root_.PySem.KeyKind prog w κ} {l : List DictEntry} (h : Pairs knd l []) : l = [] := by cases h; rfl
section
variable {X : Cx} {pins : List (Addr × Obj)} {σ : L2.St} {H : Hp} {s : Shared}
mutual
theorem DpE.rdE (I : Inv X pins σ H s) : ∀ (d : PyData) (v : V) (u : Value), DpE X.K H v d → RelV v u → RdE s.heap u d
  | .none, _, _, h, r => by
    cases h
    cases r
    exact .none
  | .bool b, _, _, h, r => by
    cases h
    cases r
    exact .bool b
  | .int i, _, _, h, r => by
    cases h
    obtain ⟨t, rfl⟩ := r
    exact .int i t
  | .str x, _, _, h, r => by
    cases h
    obtain ⟨t, rfl⟩ := r
    exact .str x t
  | .list ds, _, _, h, r => by
    cases h with
    | lst hs ha =>
      cases r
      obtain ⟨its, rv, ⟨o, n, ho, hc, _, hd⟩, _⟩ := I.list hs
      exact .list ho hc hd (DpE.rdEAll I ds _ its ha rv)
  | .tuple ds, _, _, h, r => by
    cases h with
    | tup hs ha =>
      cases r
      obtain ⟨its, rv, ⟨o, ho, hc, n, hd⟩, _⟩ := I.tuple hs
      exact .tuple ho hc hd (DpE.rdEAll I ds _ its ha rv)
  | .dict kvs, _, _, h, r => by
    cases h with
    | dic hd =>
      cases r
      obtain ⟨_, hsm, vs, hv, ob, es, ep, ho, hc⟩ := hd.ok I.hok
      cases hv
      obtain ⟨h1, h2, h3, h4, h5⟩ := hc
      have e0 : es = #[] := Array.toList_eq_nil_iff.mp (pairs_nil h4)
      subst e0
      exact .dict ho h1.1 h2 hsm
theorem DpE.rdEAll (I : Inv X pins σ H s) : ∀ (ds : List PyData) (vs : List V) (us : List Value), DpEAll X.K H vs ds → Vals vs us → RdEAll s.heap us ds
  | [], _, _, h, r => by
    cases h
    cases r
    exact .nil
  | d :: ds, _, _, h, r => by
    cases h with
    | cons h1 h2 =>
      cases r with
      | cons r1 r2 => exact .cons (DpE.rdE I d _ _ h1 r1) (DpE.rdEAll I ds _ _ h2 r2)
end
end
section
variable {X : Cx} {W : WX} {K : PySem.W.Frag} {a : Expr} {pa : PTE} {p pos : Pos}
end
section
variable {X : Cx} {W : WX} {a b : Expr} {rest : List Expr} {pa pb : PTE} {pos : Pos}
end
end Px
set_option Elab.async false
set_option linter.all false
set_option maxRecDepth 100000
namespace Px
open PySem PySem.Spec PyProof.Rows L2
structure ShF (n w : Nat) (d : D) : Prop where
  ok : okE n d = true
  sh : PyData.showable (toE d) = true
  lv : PyData.leavesShort 70 (toE d) = true
  wt : PyData.weight (toE d) + 1 ≤ w
  dp : (toE d).depth ≤ n + 1
structure ShFL (n w : Nat) (l : List D) : Prop where
  ok : l.all (okE n) = true
  sh : PyData.showableAll (toEL l) = true
  lv : PyData.leavesShortAll 70 (toEL l) = true
  wt : PyData.weightAll (toEL l) ≤ w
  dp : PyData.depthAll (toEL l) ≤ n + 1
theorem ShFL.all {n : Nat} : ∀ {l : List D}, (∀ d ∈ l, ShF n (sz d) d) → ShFL n (szL l) l
  | [], _ => ⟨rfl, rfl, rfl, by simp [toEL, PyData.weightAll], Nat.zero_le _⟩
  | d :: r, hh => by
    have h := hh d List.mem_cons_self
    have k := ShFL.all (l := r) fun x q => hh x (List.mem_cons_of_mem _ q)
    refine ⟨by rw [List.all_cons, h.ok, k.ok]; rfl, ?_, ?_, ?_, ?_⟩
    · show (PyData.showable (toE d) && PyData.showableAll (toEL r)) = true
      rw [h.sh, k.sh]; rfl
    · show (PyData.leavesShort 70 (toE d) && PyData.leavesShortAll 70 (toEL r)) = true
      rw [h.lv, k.lv]; rfl
    · show PyData.weight (toE d) + 1 + PyData.weightAll (toEL r) ≤ sz d + szL r
      have := h.wt; have := k.wt; omega
    · show max (toE d).depth (PyData.depthAll (toEL r)) ≤ n + 1
      exact Nat.max_le.mpr ⟨h.dp, k.dp⟩
def itemsP' : D → List D
  | .lst l => l
  | .tup l => l
  | _ => []
theorem Gd.seq {L B n : Nat} {d : D} (h : Gd L B n d) : ∀ x ∈ itemsP' d, Px.plain x = true ∧ Px.parts x = true := by
  cases d with
  | tup l => obtain ⟨m, em, h1, h2⟩ := h.tup; exact fun x hx => ⟨(h2 x hx).plain, (h2 x hx).parts⟩
  | lst l => obtain ⟨m, em, h1, h2⟩ := h.lst; exact fun x hx => ⟨(h2 x hx).plain, (h2 x hx).parts⟩
  | _ => intro x hx; cases hx
end Px
set_option Elab.async false
set_option linter.all false
set_option maxRecDepth 100000
namespace Px
open PySem PySem.Spec PyProof.Rows L2
end Px
set_option Elab.async false
set_option linter.all false
set_option maxRecDepth 100000
namespace Px
open PySem PySem.Spec PyProof.Rows L2
def Op1 (f : F1) (x z : D) : Prop := ∀ k : D → Prop, k z → f x k
def Op2 (f : F2) (x y z : D) : Prop := ∀ k : D → Prop, k z → f x y k
def EvG (pe : PTE) (w : PWi) (ρ : Rho) (M : Mm) (G : D → Prop) : Prop := ∀ q : PQ, (∀ d, G d → q d M) → pe w ρ M q
def EvT (t : PTT) (w : PWi) (ρ : Rho) (M : Mm) (b : Bool) : Prop := ∀ q : Bool → Mm → Prop, q b M → t w ρ M q
def EvA (pl : PTA) (w : PWi) (ρ : Rho) (M : Mm) (ds : List D) : Prop := ∀ q : List D → Mm → Prop, q ds M → pl w ρ M q
section
variable {w : PWi} {ρ : Rho} {M : Mm} {pa pb pc : PTE} {pl : PTA} {t u : PTT} {x y z d : D} {f f' : F2} {g : F1} {b c : Bool} {ds : List D}
theorem ev_own {i : Nat} {l : List D} (h : gt ρ i = some (.own l)) : Ev (dOwn i) w ρ M (.lst l) := fun q hq => by
  unfold dOwn
  rw [h]
  exact hq
theorem ev_op (ha : Ev pa w ρ M x) (hb : Ev pb w ρ M y) (h : Op2 f x y z) : Ev (dOp f pa pb) w ρ M z := fun q hq => ha _ (hb _ (h _ hq))
theorem ev_b1 (ha : Ev pa w ρ M x) (h : Op1 g x z) : Ev (dB1 g pa) w ρ M z := fun q hq => ha _ (h _ hq)
theorem eva_nil : EvA dNil w ρ M [] := fun q hq => hq
theorem eva_cons (ha : Ev pa w ρ M x) (hl : EvA pl w ρ M ds) : EvA (dCons pa pl) w ρ M (x :: ds) := fun q hq => ha _ (hl _ hq)
theorem ev_tup (h : EvA pl w ρ M ds) (hl : ds.length ≤ 1000000 := by decide) : Ev (dTup pl) w ρ M (.tup ds) := fun q hq => h _ ⟨hl, hq⟩
theorem ev_lst (h : EvA pl w ρ M ds) (hl : ds.length ≤ 1000000 := by decide) : Ev (dL (dLst pl)) w ρ M (.lst ds) := fun q hq => h _ ⟨hl, hq⟩
theorem ev_lc (h : EvA pl w ρ M ds) : Ev (dL pl) w ρ M (.lst ds) := fun q hq => h _ hq
theorem ev_call {sp : PSp} {v : D} (h : EvA pl w ρ M ds) (hs : ∀ q e, q v M → sp (ds ++ []) M q e) : Ev (dCall sp [] pl) w ρ M v := fun q hq => h _ (hs _ _ hq)
theorem ev_fld {C : Addr} {n : Str} {ns : List Str} {l : List D} {v : D} (ha : Ev pa w ρ M (.obj C ns l)) (h : (ns.zip l).lookup n = some v) : Ev (dFld C n pa) w ρ M v := fun q hq => ha _ ⟨rfl, v, h, hq⟩
theorem ev_ife (ht : EvT t w ρ M b) (ha : b = true → Ev pa w ρ M d) (hb : b = false → Ev pb w ρ M d) : Ev (dIf t pa pb) w ρ M d := fun q hq => ht _ (by
  cases b with
  | true => exact itT rfl (ha rfl q hq)
  | false => exact itF rfl (hb rfl q hq))
theorem ev_and {x : Bool} (ha : Ev pa w ρ M (.bl b)) (hb : b = true → Ev pb w ρ M (.bl c)) (e : x = (b && c)) : Ev (dAndV pa pb) w ρ M (.bl x) := fun q hq => ha _ (by
  subst e
  show if b = true then pb w ρ M q else q (.bl false) M
  cases b with
  | true => exact itT rfl (hb rfl q hq)
  | false => exact itF rfl hq)
theorem ev_neg {i : Int} (ha : Ev pa w ρ M (.int i)) : Ev (dNeg pa) w ρ M (.int (-i)) := fun q hq => ha _ hq
theorem ev_ch {i j k : Int} {p p' : Int → Int → Bool} (ha : Ev pa w ρ M (.int i)) (hb : Ev pb w ρ M (.int j)) (hc : Ev pc w ρ M (.int k)) : Ev (dChain (fCmp p) (fCmp p') pa pb pc) w ρ M (.bl (p i j && p' j k)) := fun q hq => ha _ (hb _ (by
  show if p i j = true then _ else _
  cases e : p i j with
  | true => rw [e] at hq; exact itT rfl (hc _ hq)
  | false => rw [e] at hq; exact itF rfl hq))
theorem evt (ha : Ev pa w ρ M (.bl b)) : EvT (dTst pa) w ρ M b := fun q hq => ha _ hq
theorem evt_not (h : EvT t w ρ M b) : EvT (dNot t) w ρ M (!b) := fun q hq => h _ hq
theorem evt_or {x : Bool} (h : EvT t w ρ M b) (h2 : b = false → EvT u w ρ M c) (e : x = (b || c)) : EvT (dOr t u) w ρ M x := fun q hq => h _ (by
  subst e
  cases b with
  | true => exact itT rfl hq
  | false => exact itF rfl (h2 rfl q hq))
theorem evt_and {x : Bool} (h : EvT t w ρ M b) (h2 : b = true → EvT u w ρ M c) (e : x = (b && c)) : EvT (dAnd t u) w ρ M x := fun q hq => h _ (by
  subst e
  cases b with
  | true => exact itT rfl (h2 rfl q hq)
  | false => exact itF rfl hq)
theorem evt_orF (h : EvT t w ρ M false) (h2 : EvT u w ρ M b) : EvT (dOr t u) w ρ M b := fun q hq => h _ (itF rfl (h2 q hq))
theorem evt_orT (h : EvT t w ρ M true) : EvT (dOr t u) w ρ M true := fun q hq => h _ (itT rfl hq)
section
variable {P : PEnds} {p r : PTS} {i : Nat}
theorem if_F (h : EvT t w ρ M false) (k : r w P ρ M) : dIfS t p r w P ρ M := h _ (itF rfl k)
theorem if_T (h : EvT t w ρ M true) (k : p w P ρ M) : dIfS t p r w P ρ M := h _ (itT rfl k)
theorem if_ev (h : EvT t w ρ M b) (kt : b = true → p w P ρ M) (kf : b = false → r w P ρ M) : dIfS t p r w P ρ M := h _ (by
  cases b with
  | true => exact itT rfl (kt rfl)
  | false => exact itF rfl (kf rfl))
theorem set_ev (h : Ev pa w ρ M d) (k : P.nx (st ρ i (.val d)) M) : dSet i pa w P ρ M := h _ k
theorem set_evg {G : D → Prop} (h : EvG pa w ρ M G) (k : ∀ d, G d → P.nx (st ρ i (.val d)) M) : dSet i pa w P ρ M := h _ k
theorem ret_ev (h : Ev pa w ρ M d) (k : P.rt d M) : dRet pa w P ρ M := h _ k
theorem app_ev {l : List D} (hg : gt ρ i = some (.own l)) (hl : l.length < 1000000) (h : Ev pa w ρ M d) (k : P.nx (st ρ i (.own (l ++ [d]))) M) : dApp i pa w P ρ M := ⟨by unfold isOwn; rw [hg]; trivial, h _ (by
  unfold appR
  rw [hg]
  exact ⟨hl, k⟩)⟩
theorem sqSet (h : Ev pa w ρ M d) (k : r w P (st ρ i (.val d)) M) : dSeq (dSet i pa) r w P ρ M := h _ k
theorem sqSetG {G : D → Prop} (h : EvG pa w ρ M G) (k : ∀ d, G d → r w P (st ρ i (.val d)) M) : dSeq (dSet i pa) r w P ρ M := h _ k
theorem sqAsg {gd : PTG} (h : Ev pa w ρ M d) (k : gd d ρ fun ρ' => r w P ρ' M) : dSeq (dAsg pa gd) r w P ρ M := h _ k
theorem sqIfFN {s : PTS} (h : EvT t w ρ M false) (k : r w P ρ M) : dSeq (dIfS t s dNext) r w P ρ M := h _ (itF rfl k)
theorem sqIfTR {s' : PTS} (h : EvT t w ρ M true) (he : Ev pa w ρ M d) (k : P.rt d M) : dSeq (dIfS t (dRet pa) s') r w P ρ M := h _ (itT rfl (he _ k))
theorem sqPar {i j : Nat} {x y : D} (h : EvA pl w ρ M [x, y]) (k : r w P (st (st ρ i (.val x)) j (.val y)) M) : dSeq (dPar i j pl) r w P ρ M := h _ k
theorem sqStep (h : p w { P with nx := r w P } ρ M) : dSeq p r w P ρ M := h
theorem sqSetO (h : EvA pl w ρ M ds) (k : r w P (st ρ i (.own ds)) M) : dSeq (dSetO i pl) r w P ρ M := h _ k
end
theorem evg_take {a : Addr} {n : Int} (ha : Ev pa w ρ M (.raw (.ref a))) (hb : Ev pb w ρ M (.int n)) (hm : M a = some .draw) (h : 0 < n ∧ n.natAbs.log2 < 9000) : EvG (dCall sp_take [] (dCons pa (dCons pb dNil))) w ρ M (fun z => ∃ k : Int, z = .int k ∧ 0 ≤ k ∧ k < n) :=
  fun q hq => ha _ (hb _ ⟨hm, h, fun k h0 h1 => hq _ ⟨k, rfl, h0, h1⟩⟩)
theorem evg_pick {a : Addr} {l : List D} (ha : Ev pa w ρ M (.raw (.ref a))) (hb : Ev pb w ρ M (.lst l)) (hm : M a = some .draw) (h : 0 < l.length ∧ l.length ≤ 100000) : EvG (dCall sp_pick [] (dCons pa (dCons pb dNil))) w ρ M (fun z => z ∈ l) :=
  fun q hq => ha _ (hb _ ⟨hm, h, fun x hx => hq _ hx⟩)
theorem evg_op {G H : D → Prop} (ha : EvG pa w ρ M G) (hb : ∀ x, G x → Ev pb w ρ M y) (h : ∀ x, G x → ∃ z, Op2 f x y z ∧ H z) : EvG (dOp f pa pb) w ρ M H := fun q hq => ha _ fun x hx => hb x hx _ (by
  obtain ⟨z, h1, h2⟩ := h x hx
  exact h1 _ (hq z h2))
theorem evg_opR {G H : D → Prop} (ha : Ev pa w ρ M x) (hb : EvG pb w ρ M G) (h : ∀ y, G y → ∃ z, Op2 f x y z ∧ H z) : EvG (dOp f pa pb) w ρ M H := fun q hq => ha _ (hb _ fun y hy => by
  obtain ⟨z, h1, h2⟩ := h y hy
  exact h1 _ (hq z h2))
end
section
variable {i j : Int} {l m : List D}
theorem o2_add : Op2 fAdd (.int i) (.int j) (.int (i + j)) := fun k h => h
theorem o2_cat (h : l.length + m.length ≤ 1000000) : Op2 fAdd (.lst l) (.lst m) (.lst (l ++ m)) := fun k hk => ⟨h, hk⟩
theorem o2_sub : Op2 fSub (.int i) (.int j) (.int (i - j)) := fun k h => h
theorem o2_mul (h : CMulX i j) : Op2 fMul (.int i) (.int j) (.int (i * j)) := fun k hk => ⟨h, hk⟩
theorem o2_mod (h : 0 < j) : Op2 fMod (.int i) (.int j) (.int (i % j)) := fun k hk => ⟨h, hk⟩
theorem o2_cmp {p : Int → Int → Bool} : Op2 (fCmp p) (.int i) (.int j) (.bl (p i j)) := fun k h => h
theorem o2_eqI : Op2 fEq (.int i) (.int j) (.bl (decide (i = j))) := fun k h => ⟨rfl, h⟩
theorem o2_neI : Op2 fNe (.int i) (.int j) (.bl (!decide (i = j))) := fun k h => ⟨rfl, h⟩
theorem o2_eq {x y : D} (h1 : okD 50 x = true) (h2 : okD 50 y = true) : Op2 fEq x y (.bl (eqD x y)) := fun k h => ⟨by rw [h1, h2]; rfl, h⟩
theorem o2_ne {x y : D} (h1 : okD 50 x = true) (h2 : okD 50 y = true) : Op2 fNe x y (.bl (!eqD x y)) := fun k h => ⟨by rw [h1, h2]; rfl, h⟩
theorem o2_ixL {d : D} (h : atI l i = some d) : Op2 fIx (.lst l) (.int i) d := fun k hk => ⟨d, h, hk⟩
theorem o2_ixT {d : D} (h : atI l i = some d) : Op2 fIx (.tup l) (.int i) d := fun k hk => ⟨d, h, hk⟩
theorem o2_min : Op2 fMin2 (.int i) (.int j) (.int (min i j)) := fun k h => by
  show k (.int (if j < i then j else i))
  have : (if j < i then j else i) = min i j := by split <;> omega
  rw [this]; exact h
theorem o2_max : Op2 fMax2 (.int i) (.int j) (.int (max i j)) := fun k h => by
  show k (.int (if j > i then j else i))
  have : (if j > i then j else i) = max i j := by split <;> omega
  rw [this]; exact h
theorem o2_inI {neg : Bool} {y : D} {ns : List Int} (h : itemsD y = some ns) : Op2 (fInI neg) (.int i) y (.bl (if neg = true then !decide (i ∈ ns) else decide (i ∈ ns))) := fun k hk => by
  unfold fInI
  rw [h]
  cases neg <;> exact hk
theorem o1_lenL : Op1 fLen (.lst l) (.int l.length) := fun k h => h
theorem o1_lenT : Op1 fLen (.tup l) (.int l.length) := fun k h => h
theorem o1_tupL : Op1 fTup (.lst l) (.tup l) := fun k h => h
theorem o2_isN {d : D} (h : noRaw d = true) : Op2 fIs d .non (.bl (isN d)) := fun k hk => ⟨h, hk⟩
theorem o2_isnN {d : D} (h : noRaw d = true) : Op2 fIsNot d .non (.bl (!isN d)) := fun k hk => ⟨h, hk⟩
end
end Px
set_option Elab.async false
set_option linter.all false
set_option maxRecDepth 100000
namespace Px
open PySem PySem.Spec PyProof.Rows L2
structure CallOk (K : PySem.W.Frag) (C g : Addr) : Prop where
  at_ : PySem.W.findIn K (.ref C) "__call__" = some (some (.ref g))
  fn : PySem.W.isFn K (.ref g) = true
  fi : PySem.W.fnIn K g = true
section
variable {X : Cx} {W : WX} {k n : Nat} {f C : Addr} {fd : FuncData} {ps ks : List Str} {sp : PSp} {pos : Pos} {fe e : Expr} {es : List Expr} {kws : List Keyword} {ix : List Nat} {po : PTE} {pl : PTA}
end
def fIdxI : F2 := fun x y k => match x, y with
  | .lst l, .int i => ∃ ns, intsOf l = some ns ∧ i ∈ ns ∧ k (.int ((ns.idxOf i : Nat) : Int))
  | _, _ => False
theorem eqV_int (a b : Int) : eqV (.int a) (.int b) = decide (a = b) := rfl
theorem de_idxI {X : Cx} {W : WX} {o e : Expr} {po pe : PTE} {apos cpos : Pos} (ho : DO X W o po) (he : DO X W e pe) (hbase : attributeBase o "index" X.env (eval o X.env) = eval o X.env := by rfl)
    (hfew : ((backTo cpos (starEach [e] X.env)).all (fun x => !x.1) && (backToKw cpos (keywordEach [] X.env)).all (fun x => x.1.isSome)
      && decide ([e].length + ([] : List Keyword).length + (if ([] : List Keyword).isEmpty then 0 else 1) < 30)) = true := by rfl)
    (hline : (apos.endLine == cpos.line) = true := by rfl) (hs : starEach [e] X.env = (false, eval e X.env) :: starEach [] X.env := by rfl) (hplain : (backTo cpos (starEach [] X.env)).any (·.1) = false := by rfl) :
    DE X W (.Call (.Attribute o "index" apos) [e] [] cpos) (dMtL fIdxI po pe) :=
  pe_imp (pe_bm PySem.F.plainAttrs_list PySem.F.slot_list_index PySem.F.type_list_index mt_index ho (pa_cons he pa_nil hs) hbase hfew hline hs hplain) fun σ H Q h => mtl_run (by
    intro g σ H ρ M F O x y v u k Q A rx ry hh c
    unfold fIdxI at hh
    split at hh
    · rename_i l i
      obtain ⟨ns, e1, hm, hk⟩ := hh
      have e2 := intsOf_eq e1
      subst e2
      obtain ⟨a, xs, rfl, h1, h2⟩ := rx.lst A
      have ex := rpl_ints h2
      subst ex
      have eu := ry.int
      subst eu
      have hlt := List.idxOf_lt_length_iff.mpr hm
      refine ⟨a, ns.map V.int, .int i, ns.idxOf i, .int i, rfl, rfl, .inl (.inl h1), rfl, flat_ints ns, ?_, ?_, ?_, ?_⟩
      · rw [List.getElem?_map, List.getElem?_eq_getElem hlt, List.getElem_idxOf]; rfl
      · rw [eqV_int]; exact decide_eq_true rfl
      · intro m z hm1 hz
        rw [List.getElem?_map] at hz
        have hml : m < ns.length := by omega
        rw [List.getElem?_eq_getElem hml] at hz
        cases hz
        rw [eqV_int]
        refine decide_eq_false fun z => ?_
        have := List.not_of_lt_findIdx (p := (· == i)) (xs := ns) (i := m) hm1
        simp at this
        exact this z
      · exact c (.int ((ns.idxOf i : Nat) : Int)) _ H F O A (Same.refl F) rfl hk
    · exact hh.elim) h
def dParF2L (i j : Nat) (pl : PTA) (pb : PTE) : PTS := fun w P ρ M => pl w ρ M fun ds M1 => pb w ρ M1 fun b M2 => P.nx (st (st ρ i (.own ds)) j (.val b)) M2
section
variable {X : Cx} {W : WX} {pb : PTE} {pl : PTA}
theorem ds_parF2L (i j : Nat) {x y : Str} {a b : Expr} {px py pt : Pos} {kt k2 pt2} {pos : Pos} (hc : X.calm = true) (hN : X.N.Nodup) (ha : DL X W a pl) (hb : DE X W b pb) (hi : X.N[i]? = some x := by rfl) (hj : X.N[j]? = some y := by rfl)
    (hij : i ≠ j := by decide) (hx : X.env.scope.names.lookup x = some .local := by rfl) (hy : X.env.scope.names.lookup y = some .local := by rfl)
    (h1 : starEach [a, b] X.env = (false, eval a X.env) :: starEach [b] X.env := by rfl) (h2 : starEach [b] X.env = (false, eval b X.env) :: starEach [] X.env := by rfl)
    (hw : swappedStores [.Tuple [.Name x px, .Name y py] kt pt] (.Tuple [a, b] k2 pt2) X.env = pure (some [x, y]) := by rfl)
    (hs : swapsWithSole [.Tuple [.Name x px, .Name y py] kt pt] (.Tuple [a, b] k2 pt2) pos.line X.env = pure false := by rfl) :
    DS X W (.Assign [.Tuple [.Name x px, .Name y py] kt pt] (.Tuple [a, b] k2 pt2) pos) (dParF2L i j pl pb) :=
  ps_imp (ps_par hc hN hi hj hij hx hy (pa_cons ha (pa_cons hb pa_nil h2) h1) hw hs) fun D σ H ⟨g, ρ, M, F, O, P, w, A, h, hw, k1, _⟩ =>
    ⟨g, ρ, M, F, O, _, w, A, h, hw, fun t xs H1 F1 O1 M1 ds A1 s1 e1 e2 e3 e4 e5 q1 => ⟨_, ρ, M1, F1, O1, _, w, A1.here, q1, (hw.mono s1).here A1, fun v2 H3 F3 O3 M3 d2 B3 s3 r2 q2 => by
      obtain ⟨z3, f3, o3⟩ := kept_at A1 (D := t) (o := .lst xs) e1 e3 e4 B3
      have A3 := A1.there B3
      exact ⟨.ref t, v2, rfl, k1 _ _ _ M3 F3 _ ((A3.putOwn (i := i) z3 (l := ds) (RpL.mono s3 _ _ e2) f3 o3 e5).put (i := j) r2) (s1.trans s3) q2⟩⟩⟩
end
end Px
set_option Elab.async false
set_option linter.all false
set_option maxRecDepth 100000
namespace Px
open PySem PySem.Spec PyProof.Rows L2
section
variable {X : Cx} {pos : Pos}
end
section
variable {X : Cx} {W : WX} {pe : PTE} {pos : Pos}
end
end Px
set_option Elab.async false
set_option linter.all false
set_option maxRecDepth 100000
namespace Px
open PySem PySem.Spec PyProof.Rows L2
abbrev PSpT := List D → Mm → (List D → D → Mm → Prop) → PX → Prop
structure PairOf (K : PySem.W.Frag) (g : Addr → Option HO) (H F : Hp) (O : Own) (p a : Addr) (v : V) (xs : List V) (ls : List D) (d : D) : Prop where
  hp : H p = some (.tup [.ref a, v])
  ha : H a = some (.lst xs)
  rl : RpL K F ls xs
  fa : F a = none
  oa : O a = none
  ga : g a = none
  rv : Rp K F d v
section
variable {X : Cx} {W : WX} {pe : PTE} {pl : PTA} {pos : Pos}
end
section
variable {P : Program} {w : World} {K : PySem.W.Frag} {mg : Str → Option Value} {base : Heap} {k : Nat} {f : Addr} {fd : FuncData} {ps N : List Str}
end
section
variable {X : Cx} {W : WX} {k n : Nat} {f : Addr} {fd : FuncData} {ps : List Str} {sp : PSpT} {x : Str} {p pos : Pos} {e : Expr} {es : List Expr} {pl : PTA} {pt : PWi → Rho → Mm → (List D → D → Mm → Prop) → Prop}
end
end Px
set_option Elab.async false
set_option linter.all false
set_option maxRecDepth 100000
namespace Px
open PySem PySem.Spec PyProof.Rows L2
def isLk : D → Bool
  | .tup [.int h, n] => btwD (.int h) 1 1000 && btwD n 0 h
  | _ => false
def wrK : Nat → List D → Option Nat
  | _, [] => none
  | k, d :: r => if k = 6 ∨ isLk d = false then some k else wrK (k + 1) r
def wrLk : D → Option Nat
  | .lst l => if l = [] then some 0 else wrK 0 l
  | .tup l => if l = [] then some 0 else wrK 0 l
  | _ => some 0
def itK : D → List D
  | .lst l => l
  | .tup l => l
  | _ => []
def nScr : D → Bool
  | .scr _ => false
  | _ => true
def okK (d : D) : Prop := (plain d && nScr d) = true ∧ (itK d).length ≤ 1000 ∧ ∀ x ∈ itK d, plain x = true ∧ parts x = true
def sp_is_look (C : Cl) : PSp := fun ds M q _ => ar1 ds fun d => (plain d = true ∧ parts d = true) ∧ q (.bl (isLk d)) M
def rd_is_look (C : Cl) : PTS := (dSeq (dIfS (dOr (dNot (dTst (dB1 (fIsi "tuple") (dVar 0)))) (dOr (dTst (dOp fNe (dB1 fLen (dVar 0)) (dC (.int 2)))) (dNot (dTst (dCall (sp_is_half C) [] (dCons (dOp fIx (dVar 0) (dC (.int 0))) dNil)))))) (dRet (dC (.bl false))) dNext)
    (dRet (dCall (sp_is_between C) [] (dCons (dOp fIx (dVar 0) (dC (.int 1))) (dCons (dC (.int 0)) (dCons (dOp fIx (dVar 0) (dC (.int 0))) dNil))))))
theorem atI_01 {a b : D} : atI [a, b] (0 : Int) = some a ∧ atI [a, b] (1 : Int) = some b := ⟨atI_nat (j := 0) rfl, atI_nat (j := 1) rfl⟩
theorem sh_is_look (C : Cl) : Shows (sp_is_look C) 1 (rd_is_look C) := by
  intro ds M q e h
  obtain ⟨d, rfl, ⟨hp, hpa⟩, hq⟩ := ar1_of h
  cases d with
  | tup l =>
    refine ⟨rfl, ?_⟩
    show if (!decide ((l.length : Int) = 2)) = true then _ else _
    by_cases c : (l.length : Int) = 2
    · refine itF (by rw [decide_eq_true c]; rfl) ?_
      match l, c, hpa, hq with
      | [a, b], _, hpa, hq =>
        have hpa : ([a, b].all plain) = true := hpa
        simp only [List.all_cons, List.all_nil, Bool.and_true, Bool.and_eq_true] at hpa
        refine ⟨a, atI_01.1, hpa.1, ?_⟩
        cases c2 : btwD a 1 1000 with
        | false =>
          refine ⟨M, MLe.refl M, ?_⟩
          have e : isLk (.tup [a, b]) = false := by
            cases a with
            | int i => show (btwD (.int i) 1 1000 && _) = false; rw [c2]; rfl
            | _ => rfl
          rw [← e]; exact hq
        | true =>
          cases a with
          | int i =>
            refine ⟨b, atI_01.2, .int i, atI_01.1, hpa.2, ?_⟩
            refine ⟨M, MLe.refl M, ?_⟩
            have e : isLk (.tup [.int i, b]) = btwD b 0 i := by show (btwD (.int i) 1 1000 && _) = _; rw [c2]; rfl
            rw [← e]; exact hq
          | _ => cases c2
    · refine itT (by rw [decide_eq_false c]; rfl) ⟨M, MLe.refl M, ?_⟩
      have e : isLk (.tup l) = false := by
        match l, c with
        | [], _ => rfl
        | [a], _ => cases a <;> rfl
        | [a, b], c => exact absurd rfl c
        | a :: b :: x :: r, _ => cases a <;> rfl
      rw [← e]; exact hq
  | _ => first | exact ⟨M, MLe.refl M, hq⟩ | exact absurd hp (by simp [plain, tyD])
def sp_need_looks (C : Cl) : PSp := fun ds M q e => ar1 ds fun d => okK d ∧ match wrLk d with | some k => e (.ref C.BadLook) [(("at" : Str), .int k)] M | none => q .non M
def rd_need_looks (C : Cl) : PTS := (dSeq (dIfS (dOr (dNot (dTst (dB1 (fIsi2 "list" "tuple") (dVar 0)))) (dTst (dOp fEq (dB1 fLen (dVar 0)) (dC (.int 0))))) (dRaiseA (.ref C.BadLook) "at" (dC (.int 0))) dNext)
    (dFor (iEA (dVar 0)) (gTp 2 (gsCons (gNm 1) (gsCons (gNm 2) gsNil))) (dIfS (dOr (dTst (dOp fEq (dVar 1) (dC (.int 6)))) (dNot (dTst (dCall (sp_is_look C) [] (dCons (dVar 2) dNil))))) (dRaiseA (.ref C.BadLook) "at" (dVar 1)) dNext)))
theorem enum_wrK {gd : PTG} {pb : PTS} {w : PWi} {P : PEnds} {M : Mm} {x0 : D} (l : List D) (hpl : ∀ x ∈ l, plain x = true ∧ parts x = true)
    (hb : ∀ (k : Nat) (y : D) (x1 x2 : Option Sv) (F : Rho → Mm → Prop), plain y = true ∧ parts y = true → ((k = 6 ∨ isLk y = false) → wrK 0 l = some k) → (¬ (k = 6 ∨ isLk y = false) → F [some (.val x0), some (.val (.int k)), some (.val y)] M) →
      gd (.tup [.int k, y]) [some (.val x0), x1, x2] fun ρ' => pb w { P with nx := F, ct := F, bk := P.nx } ρ' M)
    (hn : ∀ x1 x2, wrK 0 l = none → P.nx [some (.val x0), x1, x2] M) : forR gd pb w (enumD 0 l) P [some (.val x0), none, none] M := by
  refine forR_ind (fun rem ρ M' => M' = M ∧ ∃ (k : Nat) (r : List D) (x1 x2 : Option Sv), rem = enumD k r ∧ ρ = [some (.val x0), x1, x2] ∧ wrK k r = wrK 0 l ∧ ∀ x ∈ r, plain x = true ∧ parts x = true) ?_ ?_ _ _ _ ⟨rfl, 0, l, none, none, rfl, rfl, rfl, hpl⟩
  · rintro d rr ρ M' ⟨rfl, k, r, x1, x2, er, rfl, ew, hr⟩ F hF
    cases r with
    | nil => cases er
    | cons y r =>
      have er : d :: rr = .tup [.int k, y] :: enumD (k + 1) r := er
      cases er
      have ew : (if k = 6 ∨ isLk y = false then some k else wrK (k + 1) r) = wrK 0 l := ew
      refine hb k y x1 x2 F (hr y List.mem_cons_self) (fun hc => ?_) (fun hc => ?_)
      · rw [if_pos hc] at ew; exact ew.symm
      · rw [if_neg hc] at ew
        exact hF _ _ ⟨rfl, k + 1, r, _, _, rfl, rfl, ew, fun x hx => hr x (List.mem_cons_of_mem _ hx)⟩
  · rintro ρ M' ⟨rfl, k, r, x1, x2, er, rfl, ew, hr⟩
    cases r with
    | nil => exact hn x1 x2 ew.symm
    | cons y r => cases er
theorem sh_need_looks (C : Cl) : Shows (sp_need_looks C) 3 (rd_need_looks C) := by
  intro ds M q e h
  obtain ⟨d, rfl, ⟨hp, hl, hpl⟩, h⟩ := ar1_of h
  have body : ∀ (l : List D), (∀ x ∈ l, plain x = true ∧ parts x = true) → wrLk d = wrK 0 l → forR (gTp 2 (gsCons (gNm 1) (gsCons (gNm 2) gsNil))) (dIfS (dOr (dTst (dOp fEq (dVar 1) (dC (.int 6)))) (dNot (dTst (dCall (sp_is_look C) [] (dCons (dVar 2) dNil))))) (dRaiseA (.ref C.BadLook) "at" (dVar 1)) dNext)
      (fun cls fs _ M' => ∃ M2, MLe M2 M' ∧ e cls fs M2) (enumD 0 l) { nx := fun _ M' => ∃ M2, MLe M2 M' ∧ q .non M2, rt := fun d M' => ∃ M2, MLe M2 M' ∧ q d M2 } [some (.val d), none, none] M := by
    intro l hpl hw
    rw [hw] at h
    refine enum_wrK l hpl (fun k y x1 x2 F hy hh hn => ⟨rfl, rfl, ?_⟩) (fun x1 x2 hn => ?_)
    · show if decide ((k : Int) = 6) = true then _ else _
      by_cases c : (k : Int) = 6
      · refine itT (decide_eq_true c) ?_
        rw [hh (.inl (by omega))] at h
        exact ⟨M, MLe.refl M, h⟩
      · refine itF (decide_eq_false c) ⟨hy, ?_⟩
        cases c2 : isLk y with
        | false =>
          rw [hh (.inr c2)] at h
          exact ⟨M, MLe.refl M, h⟩
        | true => exact hn (fun z => z.elim (fun z => c (by omega)) (fun z => by rw [c2] at z; cases z))
    · rw [hn] at h
      exact ⟨M, MLe.refl M, h⟩
  cases d with
  | lst l =>
    refine ⟨rfl, ?_⟩
    show if decide ((l.length : Int) = 0) = true then _ else _
    by_cases c : (l.length : Int) = 0
    · have : l = [] := List.eq_nil_of_length_eq_zero (by omega)
      subst this
      exact itT rfl ⟨M, MLe.refl M, h⟩
    · refine itF (decide_eq_false c) (body l hpl ?_)
      exact if_neg (fun z => c (by rw [z]; rfl))
  | tup l =>
    refine ⟨rfl, ?_⟩
    show if decide ((l.length : Int) = 0) = true then _ else _
    by_cases c : (l.length : Int) = 0
    · have : l = [] := List.eq_nil_of_length_eq_zero (by omega)
      subst this
      exact itT rfl ⟨M, MLe.refl M, h⟩
    · refine itF (decide_eq_false c) (body l hpl ?_)
      exact if_neg (fun z => c (by rw [z]; rfl))
  | _ => first | (exfalso; revert hp; simp [plain, tyD, nScr]; done) | exact ⟨M, MLe.refl M, h⟩
mutual
theorem eqv_rf : ∀ d : D, PyData.eqv (toPy d) (toPy d) = true
  | .non => rfl
  | .bl b => by cases b <;> rfl
  | .int i => decide_eq_true (rfl : i = i)
  | .str s => decide_eq_true (rfl : s = s)
  | .tup l => eqvL_rf l
  | .lst l => eqvL_rf l
  | .dic _ _ => rfl
  | .obj _ _ _ => rfl
  | .raw _ => rfl
  | .scr _ => rfl
  | .clo _ _ _ _ _ => rfl
  | .fnc _ _ _ _ => rfl
  | .exv _ _ _ _ _ => rfl
theorem eqvL_rf : ∀ l : List D, PyData.eqvAll (toPyL l) (toPyL l) = true
  | [] => rfl
  | d :: r => by
    show (PyData.eqv (toPy d) (toPy d) && PyData.eqvAll (toPyL r) (toPyL r)) = true
    rw [eqv_rf d, eqvL_rf r]; rfl
end
theorem eqD_rf (d : D) : eqD d d = true := eqv_rf d
def lkD (p : Int × Int) : D := .tup [.int p.1, .int p.2]
def LkOk (ls : List (Int × Int)) : Prop := ls ≠ [] ∧ ls.length ≤ 6 ∧ ∀ p ∈ ls, (1 ≤ p.1 ∧ p.1 ≤ 1000) ∧ 0 ≤ p.2 ∧ p.2 ≤ p.1
def isLks (d : D) (ls : List (Int × Int)) : Prop := d = .lst (ls.map lkD) ∨ d = .tup (ls.map lkD)
theorem isLk_ok {p : Int × Int} (h : (1 ≤ p.1 ∧ p.1 ≤ 1000) ∧ 0 ≤ p.2 ∧ p.2 ≤ p.1) : isLk (lkD p) = true := by
  show ((decide (1 ≤ p.1) && decide (p.1 ≤ 1000)) && (decide (0 ≤ p.2) && decide (p.2 ≤ p.1))) = true
  rw [decide_eq_true h.1.1, decide_eq_true h.1.2, decide_eq_true h.2.1, decide_eq_true h.2.2]; rfl
theorem wrK_app : ∀ (ls : List (Int × Int)) (k : Nat) (r : List D), k + ls.length ≤ 6 → (∀ p ∈ ls, (1 ≤ p.1 ∧ p.1 ≤ 1000) ∧ 0 ≤ p.2 ∧ p.2 ≤ p.1) → wrK k (ls.map lkD ++ r) = wrK (k + ls.length) r
  | [], k, r, _, _ => rfl
  | p :: ls, k, r, hl, h => by
    rw [List.length_cons] at hl
    show (if k = 6 ∨ isLk (lkD p) = false then some k else wrK (k + 1) (ls.map lkD ++ r)) = _
    rw [if_neg (by
      rintro (z | z)
      · omega
      · rw [isLk_ok (h p List.mem_cons_self)] at z; cases z), wrK_app ls (k + 1) r (by omega) fun x hx => h x (List.mem_cons_of_mem _ hx), List.length_cons]
    congr 1
    omega
theorem LkOk.wr {d : D} {ls : List (Int × Int)} (h : LkOk ls) (hd : isLks d ls) : wrLk d = none := by
  obtain ⟨h1, h2, h3⟩ := h
  have e := wrK_app ls 0 [] (by omega) h3
  rw [List.append_nil] at e
  have ne : ls.map lkD ≠ [] := fun z => h1 (List.map_eq_nil_iff.mp z)
  rcases hd with rfl | rfl
  · show (if ls.map lkD = [] then some 0 else wrK 0 (ls.map lkD)) = none
    rw [if_neg ne, e]; rfl
  · show (if ls.map lkD = [] then some 0 else wrK 0 (ls.map lkD)) = none
    rw [if_neg ne, e]; rfl
theorem lk_pl (p : Int × Int) : plain (lkD p) = true ∧ parts (lkD p) = true := ⟨rfl, rfl⟩
theorem LkOk.okK {d : D} {ls : List (Int × Int)} (h : LkOk ls) (hd : isLks d ls) : okK d := by
  have hl := h.2.1
  have key : (ls.map lkD).length ≤ 1000 ∧ ∀ x ∈ ls.map lkD, plain x = true ∧ parts x = true := ⟨by rw [List.length_map]; omega, fun x hx => by
    obtain ⟨p, _, rfl⟩ := List.mem_map.mp hx
    exact lk_pl p⟩
  rcases hd with rfl | rfl
  · exact ⟨rfl, key⟩
  · exact ⟨rfl, key⟩
end Px
set_option Elab.async false
set_option linter.all false
set_option maxRecDepth 100000
namespace Px
open PySem PySem.Spec PyProof.Rows L2
theorem bez (a b : Nat) : ∃ u v : Int, (a : Int) * u + (b : Int) * v = (Nat.gcd a b : Nat) := by
  refine Nat.gcd.induction (P := fun a b => ∃ u v : Int, (a : Int) * u + (b : Int) * v = (Nat.gcd a b : Nat)) a b (fun n => ⟨0, 1, by simp⟩) (fun m n hm ih => ?_)
  obtain ⟨u, v, h⟩ := ih
  refine ⟨v - (n / m : Nat) * u, u, ?_⟩
  rw [Nat.gcd_rec m n, ← h]
  have e : (n : Int) = (m : Int) * ((n / m : Nat) : Int) + ((n % m : Nat) : Int) := by
    have := Nat.div_add_mod n m
    exact_mod_cast this.symm
  rw [Int.mul_sub]
  have e2 : (n : Int) * u = (m : Int) * ((n / m : Nat) : Int) * u + ((n % m : Nat) : Int) * u := by rw [← Int.add_mul, ← e]
  rw [e2, Int.mul_assoc]
  omega
theorem bezI (a b : Int) : ∃ u v : Int, a * u + b * v = g0 a b := by
  obtain ⟨u, v, h⟩ := bez a.natAbs b.natAbs
  have key : ∀ z : Int, ∃ s : Int, ((z.natAbs : Nat) : Int) = z * s := fun z => by
    rcases Int.natAbs_eq z with e | e
    · exact ⟨1, by omega⟩
    · exact ⟨-1, by omega⟩
  obtain ⟨s, hs⟩ := key a
  obtain ⟨t, ht⟩ := key b
  refine ⟨s * u, t * v, ?_⟩
  rw [← Int.mul_assoc, ← Int.mul_assoc, ← hs, ← ht, h]
  rfl
theorem lin_dvd {a m t : Int} (h : g0 a m ∣ t) : ∃ x y : Int, t = a * x + m * y := by
  obtain ⟨k, rfl⟩ := h
  obtain ⟨u, v, e⟩ := bezI a m
  exact ⟨u * k, v * k, by rw [← e, Int.add_mul, Int.mul_assoc, Int.mul_assoc]⟩
theorem gcd_lcm2 {a b m t : Int} (ha : 0 < a) (hb : 0 < b) (h1 : g0 a m ∣ t) (h2 : g0 b m ∣ t) : g0 (lc a b) m ∣ t := by
  obtain ⟨x, y, e1⟩ := lin_dvd h1
  obtain ⟨z, w, e2⟩ := lin_dvd h2
  obtain ⟨u, v, e⟩ := bezI a b
  have gp := g0_pos (x := a) hb
  obtain ⟨a', ea⟩ := g0_dvd_l a b
  obtain ⟨b', eb⟩ := g0_dvd_r a b
  have hl : lc a b = a' * b := by
    unfold lc
    rw [show a / g0 a b = a' by rw [Int.ediv_eq_of_eq_mul_right (by omega) ea]]
  have e3 : a' * u + b' * v = 1 := by
    have q : g0 a b * (a' * u + b' * v) = g0 a b * 1 := by
      rw [Int.mul_add, ← Int.mul_assoc, ← Int.mul_assoc, ← ea, ← eb, e, Int.mul_one]
    exact Int.eq_of_mul_eq_mul_left (by omega) q
  have hd := g0_dvd_l (lc a b) m
  have hm := g0_dvd_r (lc a b) m
  have ab : a * b' = lc a b := by
    rw [hl]
    conv => lhs; rw [ea]
    conv => rhs; rw [eb]
    rw [← Int.mul_assoc, Int.mul_comm a' (g0 a b)]
  have q1 : t * (b' * v) = lc a b * (x * v) + m * (y * (b' * v)) := by
    rw [e1, Int.add_mul, ← ab, Int.mul_assoc, Int.mul_assoc, Int.mul_assoc]
    congr 1
    congr 1
    rw [← Int.mul_assoc, Int.mul_comm x b', Int.mul_assoc]
  have q2 : t * (a' * u) = lc a b * (z * u) + m * (w * (a' * u)) := by
    rw [e2, Int.add_mul, hl, Int.mul_assoc, Int.mul_assoc]
    congr 1
    rw [← Int.mul_assoc z a' u, Int.mul_comm z a', Int.mul_assoc a' z u, ← Int.mul_assoc b a' (z * u), Int.mul_comm b a']
  have q3 : t = t * (a' * u) + t * (b' * v) := by rw [← Int.mul_add, e3, Int.mul_one]
  rw [q3, q1, q2]
  exact Int.dvd_add (Int.dvd_add (Int.dvd_trans hd (Int.dvd_mul_right ..)) (Int.dvd_trans hm (Int.dvd_mul_right ..))) (Int.dvd_add (Int.dvd_trans hd (Int.dvd_mul_right ..)) (Int.dvd_trans hm (Int.dvd_mul_right ..)))
theorem crt2 {M m x0 r : Int} (h : g0 M m ∣ x0 - r) : ∃ x, M ∣ x - x0 ∧ m ∣ x - r := by
  obtain ⟨u, v, e⟩ := lin_dvd h
  refine ⟨x0 - M * u, ⟨-u, by rw [Int.mul_neg]; omega⟩, ⟨v, by omega⟩⟩
theorem crtL : ∀ (l : List (Int × Int)), (∀ p ∈ l, 0 < p.2) → (∀ p ∈ l, ∀ q ∈ l, g0 p.2 q.2 ∣ p.1 - q.1) → ∃ x M : Int, 0 < M ∧ (∀ p ∈ l, p.2 ∣ x - p.1) ∧ (∀ p ∈ l, p.2 ∣ M) ∧ ∀ m t : Int, (∀ p ∈ l, g0 p.2 m ∣ t) → g0 M m ∣ t
  | [], _, _ => ⟨0, 1, by decide, (fun _ h => nomatch h), (fun _ h => nomatch h), fun m t _ => by
      have := g0_dvd_l 1 m
      exact Int.dvd_trans this (Int.one_dvd t)⟩
  | p :: l, hp, hc => by
    obtain ⟨x, M, hM, h1, h2, h3⟩ := crtL l (fun q hq => hp q (List.mem_cons_of_mem _ hq)) fun q hq q' hq' => hc q (List.mem_cons_of_mem _ hq) q' (List.mem_cons_of_mem _ hq')
    have pp := hp p List.mem_cons_self
    have hg : g0 M p.2 ∣ x - p.1 := h3 p.2 (x - p.1) fun q hq => by
      have a1 : g0 q.2 p.2 ∣ x - q.1 := Int.dvd_trans (g0_dvd_l _ _) (h1 q hq)
      have a2 := hc q (List.mem_cons_of_mem _ hq) p List.mem_cons_self
      have : x - p.1 = (x - q.1) + (q.1 - p.1) := by omega
      rw [this]
      exact Int.dvd_add a1 a2
    obtain ⟨y, y1, y2⟩ := crt2 hg
    have lp := lc_pos hM pp
    have hl := (fold_lc [p.2] M hM (fun n hn => by rw [List.mem_singleton.mp hn]; exact pp)).2 (lc M p.2)
    have hl2 := hl.mp (Int.dvd_refl _)
    refine ⟨y, lc M p.2, lp, fun q hq => ?_, fun q hq => ?_, fun m t h => gcd_lcm2 hM pp (h3 m t fun q hq => h q (List.mem_cons_of_mem _ hq)) (h p List.mem_cons_self)⟩
    · rcases List.mem_cons.mp hq with rfl | hq
      · exact y2
      · have : y - q.1 = (y - x) + (x - q.1) := by omega
        rw [this]
        exact Int.dvd_add (Int.dvd_trans (h2 q hq) y1) (h1 q hq)
    · rcases List.mem_cons.mp hq with rfl | hq
      · exact hl2.2 _ List.mem_cons_self
      · exact Int.dvd_trans (h2 q hq) hl2.1
end Px
set_option Elab.async false
set_option linter.all false
set_option maxRecDepth 100000
set_option exponentiation.threshold 3000
namespace Px
open PySem PySem.Spec PyProof.Rows L2
def WdOk (ns : List Int) : Prop := ns.length ≤ 100 ∧ ∀ n ∈ ns, (1 : Int) ≤ n ∧ n ≤ 1000000
theorem WdOk.pos {ns : List Int} (h : WdOk ns) : PosL ns := fun n q => by have := h.2 n q; omega
theorem lcmL_boundW {c : Int} (hc : 1 ≤ c) : ∀ {ns : List Int}, (∀ n ∈ ns, (1 : Int) ≤ n ∧ n ≤ c) → lcmL ns ≤ c ^ ns.length := by
  have key : ∀ (ns : List Int) (a : Int) (j : Nat), 0 < a → a ≤ c ^ j → (∀ n ∈ ns, (1 : Int) ≤ n ∧ n ≤ c) → ns.foldl lc a ≤ c ^ (j + ns.length) := by
    intro ns
    induction ns with
    | nil => intro a j _ h _; exact h
    | cons n r ih =>
      intro a j h0 h hp
      obtain ⟨h1, h2⟩ := hp n List.mem_cons_self
      have e : lc a n ≤ c ^ (j + 1) := by
        refine Int.le_trans (Int.le_of_dvd (Int.mul_pos h0 (by omega)) (lc_dvd h0 (by omega) (Int.dvd_mul_right ..) (Int.dvd_mul_left ..))) ?_
        rw [Int.pow_succ]
        exact Int.mul_le_mul h h2 (by omega) (Int.pow_nonneg (by omega))
      have := ih (lc a n) (j + 1) (lc_pos h0 (by omega)) e fun m q => hp m (List.mem_cons_of_mem _ q)
      rw [List.foldl_cons, List.length_cons, show j + (r.length + 1) = j + 1 + r.length by omega]
      exact this
  intro ns h
  have h1 := key ns 1 0 (by decide) (by simp) h
  rwa [Nat.zero_add] at h1
theorem pow_mono1 {c : Int} (hc : 1 ≤ c) (a d : Nat) : c ^ a ≤ c ^ (a + d) := by
  induction d with
  | zero => exact Int.le_refl _
  | succ d ih =>
    rw [← Nat.add_assoc, Int.pow_succ]
    have p : 0 ≤ c ^ (a + d) := Int.pow_nonneg (by omega)
    have := Int.mul_le_mul_of_nonneg_left hc p
    rw [Int.mul_one] at this
    exact Int.le_trans ih this
theorem WdOk.lcm {ns : List Int} (h : WdOk ns) : 0 < lcmL ns ∧ lcmL ns < 2 ^ 2000 := by
  refine ⟨lcmL_pos h.pos, ?_⟩
  have h1 := lcmL_boundW (by decide) h.2
  have h2 := pow_mono1 (c := 1000000) (by decide) ns.length (100 - ns.length)
  have e : ns.length + (100 - ns.length) = 100 := by have := h.1; omega
  rw [e] at h2
  exact Int.lt_of_le_of_lt (Int.le_trans h1 h2) (by decide)
end Px
set_option Elab.async false
set_option linter.all false
set_option maxRecDepth 100000
namespace Px
open PySem PySem.Spec PyProof.Rows L2
section
variable (ls : List (Int × Int))
def hL (i : Nat) : Int := (ls.getD i (1, 0)).1
def sL (i : Nat) : Int := (ls.getD i (1, 0)).2
def stL (i j : Nat) : Int := 2 * g0 (hL ls i) (hL ls j)
def alk (i j : Nat) : Bool := decide ((sL ls i - sL ls j) % stL ls i j = 0)
def unl (i j : Nat) : Bool := decide ((sL ls i + sL ls j) % stL ls i j = 0)
def jn (i j : Nat) : Bool := alk ls i j != unl ls i j
def clh (i j : Nat) : Bool := !alk ls i j && !unl ls i j
def sgn (i j : Nat) : Int := if alk ls i j = true then 1 else -1
def fitI (x : Int) (i : Nat) : Prop := 2 * hL ls i ∣ x - sL ls i ∨ 2 * hL ls i ∣ x + sL ls i
def Fit (x : Int) : Prop := ∀ i, i < ls.length → fitI ls x i
structure Lk : Prop where
  ne : 0 < ls.length
  h : ∀ i, i < ls.length → 1 ≤ hL ls i ∧ 0 ≤ sL ls i ∧ sL ls i ≤ hL ls i
structure Tree (S : Nat → Int) (Hd : Nat → Nat) (A : Nat → Option Nat) (L : List Nat) : Prop where
  all : ∀ i, i ∈ L ↔ i < ls.length
  root : ∀ i, i ∈ L → A i = none → Hd i = i ∧ S i = 1
  step : ∀ i j, i ∈ L → A i = some j → j ∈ L ∧ L.idxOf j < L.idxOf i ∧ jn ls j i = true ∧ S i = S j * sgn ls j i ∧ Hd i = Hd j
  clo : ∀ i j, i ∈ L → j ∈ L → jn ls i j = true → Hd i = Hd j
end
section
variable {ls : List (Int × Int)} {S : Nat → Int} {Hd : Nat → Nat} {A : Nat → Option Nat} {L : List Nat}
theorem stL_symm (i j : Nat) : stL ls i j = stL ls j i := by
  unfold stL g0
  rw [Int.gcd_comm]
theorem alk_iff {i j : Nat} : alk ls i j = true ↔ stL ls i j ∣ sL ls i - sL ls j := by
  unfold alk
  rw [decide_eq_true_eq]
  exact (Int.dvd_iff_emod_eq_zero).symm
theorem unl_iff {i j : Nat} : unl ls i j = true ↔ stL ls i j ∣ sL ls i + sL ls j := by
  unfold unl
  rw [decide_eq_true_eq]
  exact (Int.dvd_iff_emod_eq_zero).symm
theorem alk_symm (i j : Nat) : alk ls i j = alk ls j i := by
  rw [Bool.eq_iff_iff, alk_iff, alk_iff, stL_symm i j, ← Int.dvd_neg, show -(sL ls i - sL ls j) = sL ls j - sL ls i by omega]
theorem unl_symm (i j : Nat) : unl ls i j = unl ls j i := by
  rw [Bool.eq_iff_iff, unl_iff, unl_iff, stL_symm i j, Int.add_comm]
theorem jn_symm (i j : Nat) : jn ls i j = jn ls j i := by unfold jn; rw [alk_symm, unl_symm]
theorem sgn_symm (i j : Nat) : sgn ls i j = sgn ls j i := by unfold sgn; rw [alk_symm]
theorem sgn_pm (i j : Nat) : sgn ls i j = 1 ∨ sgn ls i j = -1 := by unfold sgn; split <;> simp
theorem st_dvd (i j : Nat) : stL ls i j ∣ 2 * hL ls i ∧ stL ls i j ∣ 2 * hL ls j :=
  ⟨Int.mul_dvd_mul_left 2 (g0_dvd_l _ _), Int.mul_dvd_mul_left 2 (g0_dvd_r _ _)⟩
def mid (ls : List (Int × Int)) (i : Nat) : Prop := 0 < sL ls i ∧ sL ls i < hL ls i
theorem not_mid (k : Lk ls) {i : Nat} (hi : i < ls.length) (h : ¬ mid ls i) : 2 * hL ls i ∣ 2 * sL ls i := by
  have := k.h i hi
  unfold mid at h
  rcases Int.lt_trichotomy (sL ls i) 0 with z | z | z
  · omega
  · rw [z]; exact ⟨0, by omega⟩
  · have : sL ls i = hL ls i := by omega
    rw [this]; exact Int.dvd_refl _
theorem jn_mid (k : Lk ls) {i j : Nat} (hi : i < ls.length) (h : jn ls i j = true) : mid ls i := by
  refine Classical.byContradiction fun c => ?_
  have d := Int.dvd_trans (st_dvd i j).1 (not_mid k hi c)
  have : alk ls i j = unl ls i j := by
    rw [Bool.eq_iff_iff, alk_iff, unl_iff]
    constructor
    · intro q
      have : sL ls i + sL ls j = 2 * sL ls i - (sL ls i - sL ls j) := by omega
      rw [this]; exact Int.dvd_sub d q
    · intro q
      have : sL ls i - sL ls j = 2 * sL ls i - (sL ls i + sL ls j) := by omega
      rw [this]; exact Int.dvd_sub d q
  unfold jn at h
  rw [this] at h
  simp at h
theorem mid_one (k : Lk ls) {i : Nat} (h : mid ls i) : ¬ 2 * hL ls i ∣ 2 * sL ls i := by
  unfold mid at h
  rintro ⟨z, e⟩
  have e : sL ls i = hL ls i * z := by
    have : 2 * sL ls i = 2 * (hL ls i * z) := by rw [e, Int.mul_assoc]
    omega
  rcases Int.lt_trichotomy z 0 with c | c | c
  · have := Int.mul_le_mul_of_nonneg_left (show z ≤ 0 by omega) (show 0 ≤ hL ls i by omega)
    rw [Int.mul_zero] at this; omega
  · rw [c, Int.mul_zero] at e; omega
  · have := Int.mul_le_mul_of_nonneg_left (show 1 ≤ z by omega) (show 0 ≤ hL ls i by omega)
    rw [Int.mul_one] at this; omega
def eps (ls : List (Int × Int)) (x : Int) (i : Nat) : Int := if 2 * hL ls i ∣ x - sL ls i then 1 else -1
theorem eps_pm (x : Int) (i : Nat) : eps ls x i = 1 ∨ eps ls x i = -1 := by unfold eps; split <;> simp
theorem eps_dvd {x : Int} {i : Nat} (h : fitI ls x i) : 2 * hL ls i ∣ x - eps ls x i * sL ls i := by
  unfold eps
  split
  · rename_i c
    rw [Int.one_mul]; exact c
  · rename_i c
    rcases h with h | h
    · exact absurd h c
    · have : x - -1 * sL ls i = x + sL ls i := by omega
      rw [this]; exact h
theorem pm_sq {a : Int} (h : a = 1 ∨ a = -1) : a * a = 1 := by rcases h with rfl | rfl <;> rfl
theorem pm_mul {a b : Int} (h : a = 1 ∨ a = -1) (h2 : b = 1 ∨ b = -1) : a * b = 1 ∨ a * b = -1 := by rcases h with rfl | rfl <;> rcases h2 with rfl | rfl <;> simp
theorem two_fit {x : Int} {i j : Nat} {a b : Int} (ha : a = 1 ∨ a = -1) (hb : b = 1 ∨ b = -1) (h1 : 2 * hL ls i ∣ x - a * sL ls i) (h2 : 2 * hL ls j ∣ x - b * sL ls j) : (a = b → alk ls i j = true) ∧ (a ≠ b → unl ls i j = true) := by
  have q : stL ls i j ∣ a * sL ls i - b * sL ls j := by
    have : a * sL ls i - b * sL ls j = (x - b * sL ls j) - (x - a * sL ls i) := by omega
    rw [this]
    exact Int.dvd_sub (Int.dvd_trans (st_dvd i j).2 h2) (Int.dvd_trans (st_dvd i j).1 h1)
  rw [alk_iff, unl_iff]
  rcases ha with rfl | rfl <;> rcases hb with rfl | rfl
  · refine ⟨fun _ => ?_, fun z => absurd rfl z⟩
    have : sL ls i - sL ls j = 1 * sL ls i - 1 * sL ls j := by omega
    rw [this]; exact q
  · refine ⟨fun z => by omega, fun _ => ?_⟩
    have : sL ls i + sL ls j = 1 * sL ls i - -1 * sL ls j := by omega
    rw [this]; exact q
  · refine ⟨fun z => by omega, fun _ => ?_⟩
    have : sL ls i + sL ls j = -(-1 * sL ls i - 1 * sL ls j) := by omega
    rw [this, Int.dvd_neg]; exact q
  · refine ⟨fun _ => ?_, fun z => absurd rfl z⟩
    have : sL ls i - sL ls j = -(-1 * sL ls i - -1 * sL ls j) := by omega
    rw [this, Int.dvd_neg]; exact q
theorem fit_no_clash {x : Int} (h : Fit ls x) {i j : Nat} (hi : i < ls.length) (hj : j < ls.length) : clh ls i j = false := by
  have q := two_fit (eps_pm x i) (eps_pm x j) (eps_dvd (h i hi)) (eps_dvd (h j hj))
  unfold clh
  by_cases c : eps ls x i = eps ls x j
  · rw [q.1 c]; rfl
  · rw [q.2 c]; simp
theorem fit_sgn {x : Int} (h : Fit ls x) {i j : Nat} (hi : i < ls.length) (hj : j < ls.length) (hn : jn ls i j = true) : eps ls x i * eps ls x j = sgn ls i j := by
  have q := two_fit (eps_pm x i) (eps_pm x j) (eps_dvd (h i hi)) (eps_dvd (h j hj))
  unfold sgn
  by_cases c : eps ls x i = eps ls x j
  · rw [if_pos (q.1 c), c]; exact pm_sq (eps_pm x j)
  · have u := q.2 c
    have na : ¬ alk ls i j = true := fun z => by unfold jn at hn; rw [z, u] at hn; simp at hn
    rw [if_neg na]
    rcases eps_pm (ls := ls) x i with e1 | e1 <;> rcases eps_pm (ls := ls) x j with e2 | e2 <;> rw [e1, e2] at c ⊢ <;> first | rfl | exact absurd rfl c
theorem Tree.ind (T : Tree ls S Hd A L) {P : Nat → Prop} (h0 : ∀ i, i ∈ L → A i = none → P i) (h1 : ∀ i j, i ∈ L → A i = some j → j ∈ L → P j → P i) : ∀ i, i ∈ L → P i := by
  have key : ∀ n i, i ∈ L → L.idxOf i ≤ n → P i := by
    intro n
    induction n with
    | zero =>
      intro i hi hn
      cases e : A i with
      | none => exact h0 i hi e
      | some j =>
        have := (T.step i j hi e).2.1
        omega
    | succ n ih =>
      intro i hi hn
      cases e : A i with
      | none => exact h0 i hi e
      | some j =>
        obtain ⟨s1, s2, _⟩ := T.step i j hi e
        exact h1 i j hi e s1 (ih j s1 (by omega))
  exact fun i hi => key _ i hi (Nat.le_refl _)
theorem Tree.pm (T : Tree ls S Hd A L) : ∀ i, i ∈ L → S i = 1 ∨ S i = -1 := T.ind (fun i hi e => .inl (T.root i hi e).2) fun i j hi e hj ih => by
  rw [(T.step i j hi e).2.2.2.1]
  exact pm_mul ih (sgn_pm j i)
theorem Tree.head (T : Tree ls S Hd A L) : ∀ i, i ∈ L → Hd i ∈ L ∧ A (Hd i) = none ∧ L.idxOf (Hd i) ≤ L.idxOf i := T.ind (fun i hi e => by rw [(T.root i hi e).1]; exact ⟨hi, e, Nat.le_refl _⟩) fun i j hi e hj ih => by
  obtain ⟨_, s2, _, _, s5⟩ := T.step i j hi e
  rw [s5]
  exact ⟨ih.1, ih.2.1, by omega⟩
theorem Tree.headhead (T : Tree ls S Hd A L) {i : Nat} (hi : i ∈ L) : Hd (Hd i) = Hd i ∧ S (Hd i) = 1 := by
  obtain ⟨h1, h2, _⟩ := T.head i hi
  exact T.root _ h1 h2
theorem Tree.fitS (T : Tree ls S Hd A L) {x : Int} (h : Fit ls x) : ∀ i, i ∈ L → eps ls x i = S i * eps ls x (Hd i) := T.ind (fun i hi e => by
    obtain ⟨a, b⟩ := T.root i hi e
    rw [a, b, Int.one_mul]) fun i j hi e hj ih => by
  obtain ⟨s1, s2, s3, s4, s5⟩ := T.step i j hi e
  have q := fit_sgn h ((T.all j).mp s1) ((T.all i).mp hi) s3
  rw [s5, s4, ← q, Int.mul_assoc, Int.mul_comm (eps ls x j * eps ls x i), ← Int.mul_assoc, ← ih, ← Int.mul_assoc, pm_sq (eps_pm x j), Int.one_mul]
theorem Tree.fit_ok (T : Tree ls S Hd A L) {x : Int} (h : Fit ls x) {i j : Nat} (hi : i ∈ L) (hj : j ∈ L) (hn : jn ls i j = true) : S i * S j = sgn ls i j := by
  rw [← fit_sgn h ((T.all i).mp hi) ((T.all j).mp hj) hn, T.fitS h i hi, T.fitS h j hj, T.clo i j hi hj hn]
  have e := pm_sq (eps_pm (ls := ls) x (Hd j))
  rw [Int.mul_assoc, Int.mul_comm (eps ls x (Hd j)), Int.mul_assoc, e, Int.mul_one]
theorem Tree.mid_head (T : Tree ls S Hd A L) (k : Lk ls) : ∀ i, i ∈ L → A i ≠ none → mid ls (Hd i) := T.ind (P := fun i => A i ≠ none → mid ls (Hd i)) (fun i hi e h => absurd e h) fun i j hi e hj ih _ => by
  obtain ⟨s1, s2, s3, s4, s5⟩ := T.step i j hi e
  rw [s5]
  cases c : A j with
  | none => rw [(T.root j hj c).1]; exact jn_mid k ((T.all j).mp hj) s3
  | some z => exact ih (by rw [c]; exact fun z => nomatch z)
end
end Px
set_option Elab.async false
set_option linter.all false
set_option maxRecDepth 100000
namespace Px
open PySem PySem.Spec PyProof.Rows L2
def sgns : Nat → List (List Int)
  | 0 => [[]]
  | c + 1 => (sgns c).map (fun v => (1 : Int) :: v) ++ (sgns c).map (fun v => (-1 : Int) :: v)
theorem sgns_len : ∀ c, (sgns c).length = 2 ^ c
  | 0 => rfl
  | c + 1 => by
    show ((sgns c).map _ ++ (sgns c).map _).length = _
    rw [List.length_append, List.length_map, List.length_map, sgns_len c, Nat.pow_succ]; omega
theorem sgns_mem : ∀ (c : Nat) (v : List Int), v ∈ sgns c ↔ v.length = c ∧ ∀ a ∈ v, a = 1 ∨ a = -1
  | 0, v => by
    show v ∈ [[]] ↔ _
    rw [List.mem_singleton]
    constructor
    · rintro rfl; exact ⟨rfl, fun a h => nomatch h⟩
    · rintro ⟨h, _⟩; exact List.length_eq_zero_iff.mp h
  | c + 1, v => by
    show v ∈ (sgns c).map _ ++ (sgns c).map _ ↔ _
    rw [List.mem_append, List.mem_map, List.mem_map]
    constructor
    · rintro (⟨u, hu, rfl⟩ | ⟨u, hu, rfl⟩)
      · obtain ⟨a, b⟩ := (sgns_mem c u).mp hu
        exact ⟨by rw [List.length_cons, a], fun x hx => by rcases List.mem_cons.mp hx with rfl | hx; exact .inl rfl; exact b x hx⟩
      · obtain ⟨a, b⟩ := (sgns_mem c u).mp hu
        exact ⟨by rw [List.length_cons, a], fun x hx => by rcases List.mem_cons.mp hx with rfl | hx; exact .inr rfl; exact b x hx⟩
    · rintro ⟨h, hb⟩
      cases v with
      | nil => cases h
      | cons x u =>
        have hu : u ∈ sgns c := (sgns_mem c u).mpr ⟨by rw [List.length_cons] at h; omega, fun a ha => hb a (List.mem_cons_of_mem _ ha)⟩
        rcases hb x List.mem_cons_self with rfl | rfl
        · exact .inl ⟨u, hu, rfl⟩
        · exact .inr ⟨u, hu, rfl⟩
theorem nodup_mapG {α β : Type} {f : α → β} : ∀ {l : List α}, l.Nodup → (∀ x ∈ l, ∀ y ∈ l, f x = f y → x = y) → (l.map f).Nodup
  | [], _, _ => List.nodup_nil
  | x :: l, h, hi => by
    obtain ⟨h1, h2⟩ := List.nodup_cons.mp h
    rw [List.map_cons, List.nodup_cons]
    refine ⟨fun z => ?_, nodup_mapG h2 fun a ha b hb => hi a (List.mem_cons_of_mem _ ha) b (List.mem_cons_of_mem _ hb)⟩
    obtain ⟨y, hy, e⟩ := List.mem_map.mp z
    have := hi y (List.mem_cons_of_mem _ hy) x List.mem_cons_self e
    exact h1 (this ▸ hy)
theorem sgns_nodup : ∀ c, (sgns c).Nodup
  | 0 => by show ([[]] : List (List Int)).Nodup; simp
  | c + 1 => by
    show ((sgns c).map _ ++ (sgns c).map _).Nodup
    rw [List.nodup_append]
    refine ⟨nodup_mapG (sgns_nodup c) fun x _ y _ e => (List.cons.inj e).2, nodup_mapG (sgns_nodup c) fun x _ y _ e => (List.cons.inj e).2, fun x hx y hy e => ?_⟩
    obtain ⟨u, _, rfl⟩ := List.mem_map.mp hx
    obtain ⟨u', _, rfl⟩ := List.mem_map.mp hy
    exact absurd (List.cons.inj e).1 (by decide)
theorem nodup_lenG {α : Type} [DecidableEq α] : ∀ {ms ns : List α}, ms.Nodup → (∀ k ∈ ms, k ∈ ns) → ms.length ≤ ns.length
  | [], ns, _, _ => Nat.zero_le _
  | x :: r, ns, h, hs => by
    obtain ⟨h1, h2⟩ := List.nodup_cons.mp h
    have hx := hs x List.mem_cons_self
    have := nodup_lenG (ms := r) (ns := ns.erase x) h2 fun k hk => (List.mem_erase_of_ne (fun e => by rw [e] at hk; exact h1 hk)).mpr (hs k (List.mem_cons_of_mem _ hk))
    rw [List.length_erase_of_mem hx] at this
    have := List.length_pos_of_mem hx
    rw [List.length_cons]; omega
theorem len_ext {α : Type} [DecidableEq α] {ms ns : List α} (h1 : ms.Nodup) (h2 : ns.Nodup) (h : ∀ k, k ∈ ms ↔ k ∈ ns) : ms.length = ns.length :=
  Nat.le_antisymm (nodup_lenG h1 fun k hk => (h k).mp hk) (nodup_lenG h2 fun k hk => (h k).mpr hk)
def zxs (n : Nat) : List Int := (List.range n).map fun i : Nat => (i : Int)
theorem zxs_mem {n : Nat} {x : Int} : x ∈ zxs n ↔ 0 ≤ x ∧ x < n := by
  unfold zxs
  rw [List.mem_map]
  constructor
  · rintro ⟨i, hi, rfl⟩
    have := List.mem_range.mp hi
    omega
  · rintro ⟨h0, h1⟩
    exact ⟨x.toNat, List.mem_range.mpr (by omega), by omega⟩
theorem zxs_nodup (n : Nat) : (zxs n).Nodup := nodup_mapG List.nodup_range fun x _ y _ e => by omega
theorem zxs_len (n : Nat) : (zxs n).length = n := by unfold zxs; rw [List.length_map, List.length_range]
section
variable (ls : List (Int × Int))
def fitZ (x : Int) : Bool := (List.range ls.length).all fun i => decide (2 * hL ls i ∣ x - sL ls i) || decide (2 * hL ls i ∣ x + sL ls i)
def roofL : Int := lcmL (ls.map (·.1))
def clsL (Hd : Nat → Nat) : List Nat := (List.range ls.length).filter fun i => decide (Hd i = i) && (decide (0 < sL ls i) && decide (sL ls i < hL ls i))
end
section
variable {ls : List (Int × Int)} {S : Nat → Int} {Hd : Nat → Nat} {A : Nat → Option Nat} {L : List Nat}
theorem fitZ_iff {x : Int} : fitZ ls x = true ↔ Fit ls x := by
  unfold fitZ Fit fitI
  rw [List.all_eq_true]
  constructor
  · intro h i hi
    have := h i (List.mem_range.mpr hi)
    rw [Bool.or_eq_true, decide_eq_true_eq, decide_eq_true_eq] at this
    exact this
  · intro h i hi
    rw [Bool.or_eq_true, decide_eq_true_eq, decide_eq_true_eq]
    exact h i (List.mem_range.mp hi)
theorem clsL_mem {i : Nat} : i ∈ clsL ls Hd ↔ i < ls.length ∧ Hd i = i ∧ mid ls i := by
  unfold clsL mid
  rw [List.mem_filter, List.mem_range, Bool.and_eq_true, Bool.and_eq_true, decide_eq_true_eq, decide_eq_true_eq, decide_eq_true_eq]
theorem clsL_nodup : (clsL ls Hd).Nodup := List.Pairwise.sublist List.filter_sublist List.nodup_range
theorem hL_at {i : Nat} (hi : i < ls.length) : hL ls i = ls[i].1 ∧ sL ls i = ls[i].2 := by
  unfold hL sL
  rw [List.getD_eq_getElem?_getD, List.getElem?_eq_getElem hi]
  exact ⟨rfl, rfl⟩
theorem hL_mem {i : Nat} (hi : i < ls.length) : hL ls i ∈ ls.map (·.1) := by
  rw [(hL_at hi).1]
  exact List.mem_map.mpr ⟨ls[i], List.getElem_mem hi, rfl⟩
theorem mem_hL {h : Int} (hh : h ∈ ls.map (·.1)) : ∃ i, i < ls.length ∧ h = hL ls i := by
  obtain ⟨p, hp, rfl⟩ := List.mem_map.mp hh
  obtain ⟨i, hi, e⟩ := List.getElem_of_mem hp
  exact ⟨i, hi, by rw [(hL_at hi).1, e]⟩
theorem Lk.posL (k : Lk ls) : PosL (ls.map (·.1)) := fun h hh => by
  obtain ⟨i, hi, rfl⟩ := mem_hL hh
  have := k.h i hi
  omega
theorem roof_pos (k : Lk ls) : 0 < roofL ls := lcmL_pos k.posL
theorem roof_dvd (k : Lk ls) {i : Nat} (hi : i < ls.length) : 2 * hL ls i ∣ 2 * roofL ls := Int.mul_dvd_mul_left 2 (lcmL_self k.posL (hL_mem hi))
theorem roof_uniq (k : Lk ls) {x y : Int} (h : ∀ i, i < ls.length → 2 * hL ls i ∣ x - y) (x0 : 0 ≤ x) (x1 : x < 2 * roofL ls) (y0 : 0 ≤ y) (y1 : y < 2 * roofL ls) : x = y := by
  have h2 : (2 : Int) ∣ x - y := Int.dvd_trans (Int.dvd_mul_right 2 (hL ls 0)) (h 0 k.ne)
  obtain ⟨z, hz⟩ := h2
  have hd : roofL ls ∣ z := (lcmL_dvd k.posL).mpr fun m hm => by
    obtain ⟨i, hi, rfl⟩ := mem_hL hm
    obtain ⟨t, ht⟩ := h i hi
    exact ⟨t, by rw [hz, Int.mul_assoc] at ht; omega⟩
  obtain ⟨t, ht⟩ := hd
  have rp := roof_pos k
  rcases Int.lt_trichotomy t 0 with c | c | c
  · have := Int.mul_le_mul_of_nonneg_left (show t ≤ -1 by omega) (show 0 ≤ roofL ls by omega)
    rw [← ht] at this; omega
  · rw [c, Int.mul_zero] at ht; omega
  · have := Int.mul_le_mul_of_nonneg_left (show 1 ≤ t by omega) (show 0 ≤ roofL ls by omega)
    rw [← ht] at this; omega
def Ok (ls : List (Int × Int)) (S : Nat → Int) : Prop := ∀ i j, i < ls.length → j < ls.length → clh ls i j = false ∧ (jn ls i j = true → S i * S j = sgn ls i j)
theorem Tree.exists_fit (T : Tree ls S Hd A L) (k : Lk ls) (o : Ok ls S) (τ : Nat → Int) (hτ : ∀ i, τ i = 1 ∨ τ i = -1) : ∃ x, 0 ≤ x ∧ x < 2 * roofL ls ∧ ∀ i, i < ls.length → 2 * hL ls i ∣ x - S i * τ (Hd i) * sL ls i := by
  have compat : ∀ i j, i < ls.length → j < ls.length → stL ls i j ∣ S i * τ (Hd i) * sL ls i - S j * τ (Hd j) * sL ls j := by
    intro i j hi hj
    have mi := (T.all i).mpr hi
    have mj := (T.all j).mpr hj
    have pi := pm_mul (T.pm i mi) (hτ (Hd i))
    have pj := pm_mul (T.pm j mj) (hτ (Hd j))
    obtain ⟨nc, ns⟩ := o i j hi hj
    have fin : (S i * τ (Hd i) = S j * τ (Hd j) → alk ls i j = true) → (S i * τ (Hd i) ≠ S j * τ (Hd j) → unl ls i j = true) → stL ls i j ∣ S i * τ (Hd i) * sL ls i - S j * τ (Hd j) * sL ls j := by
      rw [alk_iff, unl_iff]
      intro f1 f2
      generalize S i * τ (Hd i) = a at pi f1 f2 ⊢
      generalize S j * τ (Hd j) = b at pj f1 f2 ⊢
      rcases pi with rfl | rfl <;> rcases pj with rfl | rfl
      · have := f1 rfl
        rw [Int.one_mul, Int.one_mul]; exact this
      · have := f2 (by decide)
        have e : 1 * sL ls i - -1 * sL ls j = sL ls i + sL ls j := by omega
        rw [e]; exact this
      · have := f2 (by decide)
        have e : -1 * sL ls i - 1 * sL ls j = -(sL ls i + sL ls j) := by omega
        rw [e, Int.dvd_neg]; exact this
      · have := f1 rfl
        have e : -1 * sL ls i - -1 * sL ls j = -(sL ls i - sL ls j) := by omega
        rw [e, Int.dvd_neg]; exact this
    by_cases c : jn ls i j = true
    · have e := ns c
      have eh := T.clo i j mi mj c
      have e2 : (S i * τ (Hd i)) * (S j * τ (Hd j)) = sgn ls i j := by
        rw [eh, ← e]
        have := pm_sq (hτ (Hd j))
        rw [Int.mul_assoc, Int.mul_comm (τ (Hd j)), Int.mul_assoc, this, Int.mul_one]
      refine fin (fun z => ?_) (fun z => ?_)
      · rw [z, pm_sq pj] at e2
        unfold sgn at e2
        by_cases q : alk ls i j = true
        · exact q
        · rw [if_neg q] at e2; omega
      · have e3 : S i * τ (Hd i) * (S j * τ (Hd j)) = -1 := by
          rcases pi with p | p <;> rcases pj with p2 | p2 <;> rw [p, p2] at z ⊢ <;> first | rfl | exact absurd rfl z
        rw [e3] at e2
        have na : ¬ alk ls i j = true := fun q => by unfold sgn at e2; rw [if_pos q] at e2; omega
        unfold jn at c
        cases u : unl ls i j with
        | true => rfl
        | false =>
          rw [u] at c
          cases v : alk ls i j with
          | true => exact absurd v na
          | false => rw [v] at c; simp at c
    · have e : alk ls i j = unl ls i j := by
        unfold jn at c
        simpa using c
      unfold clh at nc
      rw [e] at nc
      have hu : unl ls i j = true := by simpa using nc
      exact fin (fun _ => e.trans hu) (fun _ => hu)
  obtain ⟨x, M, _, h1, _, _⟩ := crtL ((List.range ls.length).map fun i => (S i * τ (Hd i) * sL ls i, 2 * hL ls i)) (fun p hp => by
    obtain ⟨i, hi, rfl⟩ := List.mem_map.mp hp
    have := k.h i (List.mem_range.mp hi)
    show 0 < 2 * hL ls i
    omega) (fun p hp q hq => by
    obtain ⟨i, hi, rfl⟩ := List.mem_map.mp hp
    obtain ⟨j, hj, rfl⟩ := List.mem_map.mp hq
    show g0 (2 * hL ls i) (2 * hL ls j) ∣ _
    rw [g0_mul (by decide)]
    exact compat i j (List.mem_range.mp hi) (List.mem_range.mp hj))
  have rp := roof_pos k
  refine ⟨x % (2 * roofL ls), Int.emod_nonneg _ (by omega), Int.emod_lt_of_pos _ (by omega), fun i hi => ?_⟩
  have h2 := h1 _ (List.mem_map.mpr ⟨i, List.mem_range.mpr hi, rfl⟩)
  have e := Int.emod_add_mul_ediv x (2 * roofL ls)
  have e2 : x % (2 * roofL ls) - S i * τ (Hd i) * sL ls i = (x - S i * τ (Hd i) * sL ls i) - 2 * roofL ls * (x / (2 * roofL ls)) := by omega
  rw [e2]
  exact Int.dvd_sub h2 (Int.dvd_trans (roof_dvd k hi) (Int.dvd_mul_right ..))
theorem eps_of {x : Int} {i : Nat} {a : Int} (k : Lk ls) (hm : mid ls i) (ha : a = 1 ∨ a = -1) (h : 2 * hL ls i ∣ x - a * sL ls i) : eps ls x i = a := by
  unfold eps
  rcases ha with rfl | rfl
  · rw [Int.one_mul] at h
    rw [if_pos h]
  · rw [if_neg]
    intro c
    have : 2 * sL ls i = (x - -1 * sL ls i) - (x - sL ls i) := by omega
    exact mid_one k hm (this ▸ Int.dvd_sub h c)
theorem Tree.count2 (T : Tree ls S Hd A L) (k : Lk ls) (o : Ok ls S) : ((zxs (2 * roofL ls).toNat).filter (fitZ ls)).length = 2 ^ (clsL ls Hd).length := by
  have rp := roof_pos k
  rw [← sgns_len]
  have e : ((zxs (2 * roofL ls).toNat).filter (fitZ ls)).length = (((zxs (2 * roofL ls).toNat).filter (fitZ ls)).map fun x => (clsL ls Hd).map fun i => eps ls x i).length := by rw [List.length_map]
  rw [e]
  have mem : ∀ x, x ∈ (zxs (2 * roofL ls).toNat).filter (fitZ ls) ↔ (0 ≤ x ∧ x < 2 * roofL ls) ∧ Fit ls x := fun x => by
    rw [List.mem_filter, zxs_mem, fitZ_iff]
    constructor
    · rintro ⟨h, f⟩; exact ⟨by omega, f⟩
    · rintro ⟨h, f⟩; exact ⟨by omega, f⟩
  refine len_ext (nodup_mapG (List.Pairwise.sublist List.filter_sublist (zxs_nodup _)) fun x hx y hy e => ?_) (sgns_nodup _) fun v => ?_
  · obtain ⟨⟨x0, x1⟩, fx⟩ := (mem x).mp hx
    obtain ⟨⟨y0, y1⟩, fy⟩ := (mem y).mp hy
    refine roof_uniq k (fun i hi => ?_) x0 x1 y0 y1
    have mi := (T.all i).mpr hi
    have hh : eps ls x (Hd i) = eps ls y (Hd i) ∨ ¬ mid ls (Hd i) := by
      by_cases c : mid ls (Hd i)
      · left
        have hc : Hd i ∈ clsL ls Hd := clsL_mem.mpr ⟨(T.all _).mp (T.head i mi).1, (T.headhead mi).1, c⟩
        exact List.map_inj_left.mp e _ hc
      · exact .inr c
    have dx := eps_dvd (fx i hi)
    have dy := eps_dvd (fy i hi)
    rcases hh with hh | hh
    · have e2 : eps ls x i = eps ls y i := by rw [T.fitS fx i mi, T.fitS fy i mi, hh]
      rw [e2] at dx
      have : x - y = (x - eps ls y i * sL ls i) - (y - eps ls y i * sL ls i) := by omega
      rw [this]; exact Int.dvd_sub dx dy
    · have ha : A i = none := Classical.byContradiction fun z => hh (T.mid_head k i mi z)
      rw [(T.root i mi ha).1] at hh
      have d2 := not_mid k hi hh
      rcases eps_pm (ls := ls) x i with e1 | e1 <;> rcases eps_pm (ls := ls) y i with e2 | e2 <;> rw [e1] at dx <;> rw [e2] at dy
      · have : x - y = (x - 1 * sL ls i) - (y - 1 * sL ls i) := by omega
        rw [this]; exact Int.dvd_sub dx dy
      · have : x - y = ((x - 1 * sL ls i) - (y - -1 * sL ls i)) + 2 * sL ls i := by omega
        rw [this]; exact Int.dvd_add (Int.dvd_sub dx dy) d2
      · have : x - y = ((x - -1 * sL ls i) - (y - 1 * sL ls i)) - 2 * sL ls i := by omega
        rw [this]; exact Int.dvd_sub (Int.dvd_sub dx dy) d2
      · have : x - y = (x - -1 * sL ls i) - (y - -1 * sL ls i) := by omega
        rw [this]; exact Int.dvd_sub dx dy
  · rw [sgns_mem]
    constructor
    · intro h
      obtain ⟨x, hx, rfl⟩ := List.mem_map.mp h
      exact ⟨by rw [List.length_map], fun a ha => by
        obtain ⟨i, _, rfl⟩ := List.mem_map.mp ha
        exact eps_pm x i⟩
    · rintro ⟨hl, hv⟩
      have hτ : ∀ i, v.getD ((clsL ls Hd).idxOf i) 1 = 1 ∨ v.getD ((clsL ls Hd).idxOf i) 1 = -1 := fun i => by
        rw [List.getD_eq_getElem?_getD]
        cases q : v[(clsL ls Hd).idxOf i]? with
        | none => exact .inl rfl
        | some a => exact hv a (List.mem_of_getElem? q)
      obtain ⟨x, x0, x1, hx⟩ := T.exists_fit k o (fun i => v.getD ((clsL ls Hd).idxOf i) 1) hτ
      have fx : Fit ls x := fun i hi => by
        have mi := (T.all i).mpr hi
        have p := pm_mul (T.pm i mi) (hτ (Hd i))
        have d := hx i hi
        rcases p with p | p <;> rw [show S i * (fun i => v.getD ((clsL ls Hd).idxOf i) 1) (Hd i) = S i * v.getD ((clsL ls Hd).idxOf (Hd i)) 1 from rfl, p] at d
        · left; rw [Int.one_mul] at d; exact d
        · right
          have : x + sL ls i = x - -1 * sL ls i := by omega
          rw [this]; exact d
      refine List.mem_map.mpr ⟨x, (mem x).mpr ⟨⟨x0, x1⟩, fx⟩, ?_⟩
      refine List.ext_getElem? fun n => ?_
      rw [List.getElem?_map]
      by_cases hn : n < (clsL ls Hd).length
      · rw [List.getElem?_eq_getElem hn]
        obtain ⟨ci, ch, cm⟩ := clsL_mem.mp (List.getElem_mem hn)
        have mi := (T.all _).mpr ci
        have d := hx _ ci
        have hs := (T.headhead mi).2
        rw [ch] at hs
        have hi : (clsL ls Hd).idxOf (clsL ls Hd)[n] = n := List.Nodup.idxOf_getElem clsL_nodup n hn
        have ev : v[n]? = some v[n] := List.getElem?_eq_getElem (by omega)
        have eτ : v.getD ((clsL ls Hd).idxOf (clsL ls Hd)[n]) 1 = v[n] := by rw [hi, List.getD_eq_getElem?_getD, ev]; rfl
        rw [hs, ch, Int.one_mul, eτ] at d
        rw [ev]
        show some (eps ls x (clsL ls Hd)[n]) = some v[n]
        rw [eps_of k cm (hv _ (List.getElem_mem _)) d]
      · rw [List.getElem?_eq_none (by omega), List.getElem?_eq_none (by omega)]
        rfl
end
end Px
set_option Elab.async false
set_option linter.all false
set_option maxRecDepth 100000
namespace Px
open PySem PySem.Spec PyProof.Rows L2
section
variable {ls : List (Int × Int)} {S : Nat → Int} {Hd : Nat → Nat} {A : Nat → Option Nat} {L : List Nat}
theorem Tree.fits_ok (T : Tree ls S Hd A L) {x : Int} (h : Fit ls x) : Ok ls S := fun i j hi hj => ⟨fit_no_clash h hi hj, fun c => T.fit_ok h ((T.all i).mpr hi) ((T.all j).mpr hj) c⟩
theorem fit_turn (k : Lk ls) {x : Int} (h : Fit ls x) : Fit ls (2 * roofL ls - x) := fun i hi => by
  have d := roof_dvd k hi
  rcases h i hi with q | q
  · right
    have : 2 * roofL ls - x + sL ls i = 2 * roofL ls - (x - sL ls i) := by omega
    rw [this]; exact Int.dvd_sub d q
  · left
    have : 2 * roofL ls - x - sL ls i = 2 * roofL ls - (x + sL ls i) := by omega
    rw [this]; exact Int.dvd_sub d q
theorem small_dvd {h s : Int} (h0 : 0 < s) (h1 : s < h) : ¬ h ∣ s := by
  rintro ⟨z, e⟩
  rcases Int.lt_trichotomy z 0 with c | c | c
  · have := Int.mul_le_mul_of_nonneg_left (show z ≤ 0 by omega) (show 0 ≤ h by omega)
    rw [Int.mul_zero] at this; omega
  · rw [c, Int.mul_zero] at e; omega
  · have := Int.mul_le_mul_of_nonneg_left (show 1 ≤ z by omega) (show 0 ≤ h by omega)
    rw [Int.mul_one] at this; omega
theorem fit_ends (k : Lk ls) {i : Nat} (hi : i < ls.length) (hm : mid ls i) {x : Int} (h : Fit ls x) : x ≠ 0 ∧ x ≠ roofL ls := by
  have hd : hL ls i ∣ roofL ls := lcmL_self k.posL (hL_mem hi)
  have h2 : hL ls i ∣ 2 * hL ls i := Int.dvd_mul_left ..
  obtain ⟨m0, m1⟩ := hm
  have key : ¬ hL ls i ∣ x := fun q => by
    have : hL ls i ∣ sL ls i := by
      rcases h i hi with c | c
      · have e : sL ls i = x - (x - sL ls i) := by omega
        rw [e]; exact Int.dvd_sub q (Int.dvd_trans h2 c)
      · have e : sL ls i = (x + sL ls i) - x := by omega
        rw [e]; exact Int.dvd_sub (Int.dvd_trans h2 c) q
    exact small_dvd m0 m1 this
  exact ⟨fun e => key (e ▸ Int.dvd_zero _), fun e => key (e ▸ hd)⟩
theorem Tree.count1 (T : Tree ls S Hd A L) (k : Lk ls) (o : Ok ls S) : ((zxs (roofL ls + 1).toNat).filter (fitZ ls)).length = if (clsL ls Hd).length = 0 then 1 else 2 ^ ((clsL ls Hd).length - 1) := by
  have rp := roof_pos k
  have c2 := T.count2 k o
  have mem2 : ∀ x, x ∈ (zxs (2 * roofL ls).toNat).filter (fitZ ls) ↔ (0 ≤ x ∧ x < 2 * roofL ls) ∧ Fit ls x := fun x => by
    rw [List.mem_filter, zxs_mem, fitZ_iff]
    constructor
    · rintro ⟨h, f⟩; exact ⟨by omega, f⟩
    · rintro ⟨h, f⟩; exact ⟨by omega, f⟩
  have mem1 : ∀ x, x ∈ (zxs (roofL ls + 1).toNat).filter (fitZ ls) ↔ (0 ≤ x ∧ x ≤ roofL ls) ∧ Fit ls x := fun x => by
    rw [List.mem_filter, zxs_mem, fitZ_iff]
    constructor
    · rintro ⟨h, f⟩; exact ⟨by omega, f⟩
    · rintro ⟨h, f⟩; exact ⟨by omega, f⟩
  have nd1 : ((zxs (roofL ls + 1).toNat).filter (fitZ ls)).Nodup := List.Pairwise.sublist List.filter_sublist (zxs_nodup _)
  have nd2 : ((zxs (2 * roofL ls).toNat).filter (fitZ ls)).Nodup := List.Pairwise.sublist List.filter_sublist (zxs_nodup _)
  generalize (zxs (2 * roofL ls).toNat).filter (fitZ ls) = F2 at c2 mem2 nd2
  generalize (zxs (roofL ls + 1).toNat).filter (fitZ ls) = F1 at mem1 nd1 ⊢
  by_cases hc : (clsL ls Hd).length = 0
  · rw [if_pos hc]
    rw [hc] at c2
    obtain ⟨x0, e⟩ := List.length_eq_one_iff.mp (show F2.length = 1 from c2)
    subst e
    obtain ⟨⟨a0, a1⟩, f0⟩ := (mem2 x0).mp List.mem_cons_self
    have only : ∀ y, 0 ≤ y → y < 2 * roofL ls → Fit ls y → y = x0 := fun y h0 h1 f => List.mem_singleton.mp ((mem2 y).mpr ⟨⟨h0, h1⟩, f⟩)
    have hx : x0 = 0 ∨ x0 = roofL ls := by
      by_cases z : x0 = 0
      · exact .inl z
      · have := only (2 * roofL ls - x0) (by omega) (by omega) (fit_turn k f0)
        omega
    have hin : x0 ∈ F1 := (mem1 x0).mpr ⟨by omega, f0⟩
    have hall : ∀ y ∈ F1, y ∈ [x0] := fun y hy => by
      obtain ⟨⟨b0, b1⟩, f⟩ := (mem1 y).mp hy
      rw [List.mem_singleton]
      exact only y b0 (by omega) f
    have l1 := nodup_lenG nd1 hall
    have l2 := List.length_pos_of_mem hin
    rw [List.length_singleton] at l1
    omega
  · rw [if_neg hc]
    obtain ⟨i, hi⟩ := List.exists_mem_of_length_pos (Nat.pos_of_ne_zero hc)
    obtain ⟨ci, ch, cm⟩ := clsL_mem.mp hi
    have ends : ∀ x, Fit ls x → x ≠ 0 ∧ x ≠ roofL ls := fun x f => fit_ends k ci cm f
    have e : F2.length = (F1 ++ F1.map fun x => 2 * roofL ls - x).length := by
      refine len_ext nd2 ?_ fun x => ?_
      · rw [List.nodup_append]
        refine ⟨nd1, nodup_mapG nd1 fun x _ y _ e => by omega, fun x hx y hy e => ?_⟩
        obtain ⟨z, hz, rfl⟩ := List.mem_map.mp hy
        obtain ⟨⟨b0, b1⟩, f⟩ := (mem1 x).mp hx
        obtain ⟨⟨d0, d1⟩, g⟩ := (mem1 z).mp hz
        have := ends x f
        have := ends z g
        omega
      · rw [mem2, List.mem_append, List.mem_map]
        constructor
        · rintro ⟨⟨b0, b1⟩, f⟩
          by_cases z : x ≤ roofL ls
          · exact .inl ((mem1 x).mpr ⟨⟨b0, z⟩, f⟩)
          · exact .inr ⟨2 * roofL ls - x, (mem1 _).mpr ⟨by omega, fit_turn k f⟩, by omega⟩
        · rintro (h | ⟨y, hy, rfl⟩)
          · obtain ⟨⟨b0, b1⟩, f⟩ := (mem1 x).mp h
            exact ⟨by omega, f⟩
          · obtain ⟨⟨b0, b1⟩, f⟩ := (mem1 y).mp hy
            have := ends y f
            exact ⟨by omega, fit_turn k f⟩
    rw [List.length_append, List.length_map, c2] at e
    obtain ⟨c, hcc⟩ : ∃ c, (clsL ls Hd).length = c + 1 := ⟨(clsL ls Hd).length - 1, by omega⟩
    rw [hcc, Nat.pow_succ] at e
    rw [hcc, Nat.add_sub_cancel]
    omega
theorem Tree.count0 (T : Tree ls S Hd A L) (o : ¬ Ok ls S) (n : Nat) : (zxs n).filter (fitZ ls) = [] := by
  rw [List.filter_eq_nil_iff]
  intro x _ h
  exact o (T.fits_ok (fitZ_iff.mp h))
end
end Px
set_option Elab.async false
set_option linter.all false
set_option maxRecDepth 100000
namespace Px
open PySem PySem.Spec PyProof.Rows L2
structure Nt where
  S : Nat → Int
  Hd : Nat → Nat
  A : Nat → Option Nat
  L : List Nat
def Nt.add (t : Nt) (i : Nat) (s : Int) (h : Nat) (a : Option Nat) : Nt := ⟨fun k => if k = i then s else t.S k, fun k => if k = i then h else t.Hd k, fun k => if k = i then a else t.A k, t.L ++ [i]⟩
section
variable (ls : List (Int × Int))
def visit (first cur : Nat) (p : Nt × List Nat) (o : Nat) : Nt × List Nat :=
  if jn ls cur o = true ∧ o ∉ p.1.L then (p.1.add o (p.1.S cur * sgn ls cur o) first (some cur), p.2 ++ [o]) else p
def inner (first cur : Nat) (p : Nt × List Nat) : Nt × List Nat := (List.range ls.length).foldl (visit ls first cur) p
def goF (first : Nat) : Nat → Nat → Nt × List Nat → Nt × List Nat
  | 0, _, p => p
  | f + 1, k, p => match p.2[k]? with
    | none => p
    | some cur => goF first f (k + 1) (inner ls first cur p)
def goAll (first : Nat) (t : Nt) : Nt := (goF ls first (ls.length + 1) 0 (t.add first 1 first none, [first])).1
def nt0 : Nt := ⟨fun _ => 0, fun _ => 0, fun _ => none, []⟩
def netStep (t : Nt) (i : Nat) : Nt := if i ∈ t.L then t else goAll ls i t
def netF : Nt := (List.range ls.length).foldl (netStep ls) nt0
structure PT (t : Nt) : Prop where
  nd : t.L.Nodup
  lt : ∀ i, i ∈ t.L → i < ls.length
  root : ∀ i, i ∈ t.L → t.A i = none → t.Hd i = i ∧ t.S i = 1
  step : ∀ i j, i ∈ t.L → t.A i = some j → j ∈ t.L ∧ t.L.idxOf j < t.L.idxOf i ∧ jn ls j i = true ∧ t.S i = t.S j * sgn ls j i ∧ t.Hd i = t.Hd j
def Clo (t : Nt) : Prop := ∀ i, i ∈ t.L → ∀ j, j < ls.length → jn ls i j = true → j ∈ t.L ∧ t.Hd i = t.Hd j
end
section
variable {ls : List (Int × Int)} {first cur o k : Nat} {t t0 : Nt} {p : Nt × List Nat}
theorem idx_app {L : List Nat} {i j : Nat} (h : j ∈ L) : (L ++ [i]).idxOf j = L.idxOf j := by
  rw [List.idxOf_append, if_pos h]
theorem idx_new {L : List Nat} {i : Nat} (h : i ∉ L) : (L ++ [i]).idxOf i = L.length := by
  rw [List.idxOf_append, if_neg h]
  simp
theorem add_ne {i j : Nat} {s : Int} {h : Nat} {a : Option Nat} (e : j ≠ i) : (t.add i s h a).S j = t.S j ∧ (t.add i s h a).Hd j = t.Hd j ∧ (t.add i s h a).A j = t.A j := by
  unfold Nt.add
  refine ⟨?_, ?_, ?_⟩ <;> (dsimp only; rw [if_neg e])
theorem add_eq {i : Nat} {s : Int} {h : Nat} {a : Option Nat} : (t.add i s h a).S i = s ∧ (t.add i s h a).Hd i = h ∧ (t.add i s h a).A i = a := by
  unfold Nt.add
  refine ⟨?_, ?_, ?_⟩ <;> (dsimp only; rw [if_pos rfl])
theorem PT.add (T : PT ls t) {i : Nat} {s : Int} {h : Nat} {a : Option Nat} (hi : i ∉ t.L) (hl : i < ls.length) (h0 : a = none → h = i ∧ s = 1) (h1 : ∀ j, a = some j → j ∈ t.L ∧ jn ls j i = true ∧ s = t.S j * sgn ls j i ∧ h = t.Hd j) : PT ls (t.add i s h a) where
  nd := by
    show (t.L ++ [i]).Nodup
    rw [List.nodup_append]
    exact ⟨T.nd, by simp, fun x hx y hy e => by rw [List.mem_singleton] at hy; exact hi (by rw [← hy, ← e]; exact hx)⟩
  lt := fun j hj => by
    rcases List.mem_append.mp (show j ∈ t.L ++ [i] from hj) with hj | hj
    · exact T.lt j hj
    · rw [List.mem_singleton.mp hj]; exact hl
  root := fun j hj e => by
    rcases List.mem_append.mp (show j ∈ t.L ++ [i] from hj) with hj | hj
    · have ne : j ≠ i := fun z => hi (z ▸ hj)
      obtain ⟨e1, e2, e3⟩ := add_ne (t := t) (s := s) (h := h) (a := a) ne
      rw [e1, e2]
      rw [e3] at e
      exact T.root j hj e
    · rw [List.mem_singleton] at hj
      subst hj
      obtain ⟨e1, e2, e3⟩ := add_eq (t := t) (i := j) (s := s) (h := h) (a := a)
      rw [e1, e2]
      rw [e3] at e
      exact h0 e
  step := fun j u hj e => by
    rcases List.mem_append.mp (show j ∈ t.L ++ [i] from hj) with hj | hj
    · have ne : j ≠ i := fun z => hi (z ▸ hj)
      obtain ⟨e1, e2, e3⟩ := add_ne (t := t) (s := s) (h := h) (a := a) ne
      rw [e3] at e
      obtain ⟨s1, s2, s3, s4, s5⟩ := T.step j u hj e
      have nu : u ≠ i := fun z => hi (z ▸ s1)
      obtain ⟨f1, f2, f3⟩ := add_ne (t := t) (s := s) (h := h) (a := a) nu
      rw [e1, e2, f1, f2]
      exact ⟨List.mem_append.mpr (.inl s1), by show (t.L ++ [i]).idxOf u < (t.L ++ [i]).idxOf j; rw [idx_app s1, idx_app hj]; exact s2, s3, s4, s5⟩
    · rw [List.mem_singleton] at hj
      subst hj
      obtain ⟨e1, e2, e3⟩ := add_eq (t := t) (i := j) (s := s) (h := h) (a := a)
      rw [e3] at e
      obtain ⟨s1, s2, s3, s4⟩ := h1 u e
      have nu : u ≠ j := fun z => hi (z ▸ s1)
      obtain ⟨f1, f2, f3⟩ := add_ne (t := t) (s := s) (h := h) (a := a) nu
      rw [e1, e2, f1, f2]
      exact ⟨List.mem_append.mpr (.inl s1), by show (t.L ++ [j]).idxOf u < (t.L ++ [j]).idxOf j; rw [idx_app s1, idx_new hi]; exact List.idxOf_lt_length_iff.mpr s1, s2, s3, s4⟩
structure GI (ls : List (Int × Int)) (first : Nat) (t0 : Nt) (p : Nt × List Nat) : Prop where
  pt : PT ls p.1
  L : p.1.L = t0.L ++ p.2
  hd : ∀ i, i ∈ p.2 → p.1.Hd i = first
  old : ∀ i, i ∈ t0.L → p.1.Hd i = t0.Hd i
theorem GI.visit (c0 : Clo ls t0) (G : GI ls first t0 p) (hc : cur ∈ p.2) (ho : o < ls.length) : GI ls first t0 (visit ls first cur p o) ∧ p.2 <+: (visit ls first cur p o).2 ∧ (jn ls cur o = true → o ∈ (visit ls first cur p o).2) := by
  have hcL : cur ∈ p.1.L := by rw [G.L]; exact List.mem_append.mpr (.inr hc)
  unfold Px.visit
  by_cases c : jn ls cur o = true ∧ o ∉ p.1.L
  · rw [if_pos c]
    have h0 : o ∉ t0.L := fun z => c.2 (by rw [G.L]; exact List.mem_append.mpr (.inl z))
    refine ⟨⟨G.pt.add c.2 ho (fun z => nomatch z) fun j e => ?_, ?_, fun i hi => ?_, fun i hi => ?_⟩, List.prefix_append _ _, fun _ => List.mem_append.mpr (.inr List.mem_cons_self)⟩
    · cases e
      exact ⟨hcL, c.1, rfl, (G.hd cur hc).symm⟩
    · show p.1.L ++ [o] = t0.L ++ (p.2 ++ [o])
      rw [G.L, List.append_assoc]
    · rcases List.mem_append.mp (show i ∈ p.2 ++ [o] from hi) with hi | hi
      · have hiL : i ∈ p.1.L := by rw [G.L]; exact List.mem_append.mpr (.inr hi)
        rw [(add_ne (t := p.1) (i := o) (j := i) (fun z => c.2 (z ▸ hiL))).2.1]
        exact G.hd i hi
      · rw [List.mem_singleton.mp hi]
        exact add_eq.2.1
    · rw [(add_ne (t := p.1) (i := o) (j := i) (fun z => h0 (z ▸ hi))).2.1]
      exact G.old i hi
  · rw [if_neg c]
    refine ⟨G, List.prefix_refl _, fun hj => ?_⟩
    have hoL : o ∈ p.1.L := Classical.byContradiction fun z => c ⟨hj, z⟩
    rw [G.L] at hoL
    rcases List.mem_append.mp hoL with z | z
    · exfalso
      have := (c0 o z cur (G.pt.lt cur hcL) (by rw [jn_symm]; exact hj)).1
      have nd := G.pt.nd
      rw [G.L, List.nodup_append] at nd
      exact nd.2.2 cur this cur hc rfl
    · exact z
theorem GI.inner (c0 : Clo ls t0) (G : GI ls first t0 p) (hc : cur ∈ p.2) : GI ls first t0 (inner ls first cur p) ∧ p.2 <+: (inner ls first cur p).2 ∧ ∀ o, o < ls.length → jn ls cur o = true → o ∈ (inner ls first cur p).2 := by
  have key : ∀ n, n ≤ ls.length → GI ls first t0 ((List.range n).foldl (Px.visit ls first cur) p) ∧ p.2 <+: ((List.range n).foldl (Px.visit ls first cur) p).2 ∧ ∀ o, o < n → jn ls cur o = true → o ∈ ((List.range n).foldl (Px.visit ls first cur) p).2 := by
    intro n
    induction n with
    | zero => intro _; exact ⟨G, List.prefix_refl _, fun o h => by omega⟩
    | succ n ih =>
      intro hn
      obtain ⟨g1, g2, g3⟩ := ih (by omega)
      rw [List.range_succ, List.foldl_append]
      obtain ⟨v1, v2, v3⟩ := g1.visit c0 (g2.subset hc) (show n < ls.length by omega)
      refine ⟨v1, g2.trans v2, fun o ho hj => ?_⟩
      by_cases z : o = n
      · subst z; exact v3 hj
      · exact v2.subset (g3 o (by omega) hj)
  exact key _ (Nat.le_refl _)
def Pro (ls : List (Int × Int)) (k : Nat) (l : List Nat) : Prop := ∀ i, i < k → ∀ cur, l[i]? = some cur → ∀ o, o < ls.length → jn ls cur o = true → o ∈ l
theorem GI.len (G : GI ls first t0 p) : p.1.L.length ≤ ls.length := by
  have := nodup_lenG G.pt.nd (ns := List.range ls.length) fun i hi => List.mem_range.mpr (G.pt.lt i hi)
  rw [List.length_range] at this
  exact this
theorem GI.go (c0 : Clo ls t0) : ∀ (f k : Nat) (p : Nt × List Nat), GI ls first t0 p → Pro ls k p.2 → k ≤ p.2.length → ls.length < f + k → GI ls first t0 (goF ls first f k p) ∧ p.2 <+: (goF ls first f k p).2 ∧ Pro ls (goF ls first f k p).2.length (goF ls first f k p).2
  | 0, k, p, G, hp, hk, hf => by
    have := G.len
    rw [G.L, List.length_append] at this
    omega
  | f + 1, k, p, G, hp, hk, hf => by
    unfold goF
    cases e : p.2[k]? with
    | none =>
      have : p.2.length ≤ k := by
        refine Classical.byContradiction fun z => ?_
        rw [List.getElem?_eq_getElem (by omega)] at e
        cases e
      refine ⟨G, List.prefix_refl _, ?_⟩
      have ek : k = p.2.length := by omega
      rw [← ek]
      exact hp
    | some cur =>
      have hc : cur ∈ p.2 := List.mem_of_getElem? e
      have hlt : k < p.2.length := by
        refine Classical.byContradiction fun z => ?_
        rw [List.getElem?_eq_none (by omega)] at e
        cases e
      obtain ⟨g1, g2, g3⟩ := G.inner c0 hc
      have hl2 := g2.length_le
      have hp2 : Pro ls (k + 1) (Px.inner ls first cur p).2 := by
        intro i hi c2 hc2 o ho hj
        by_cases z : i = k
        · subst z
          have : (Px.inner ls first cur p).2[i]? = some cur := by
            obtain ⟨r, hr⟩ := g2
            rw [← hr, List.getElem?_append_left hlt]
            exact e
          rw [this] at hc2
          cases hc2
          exact g3 o ho hj
        · have hil : i < p.2.length := by omega
          have : (Px.inner ls first cur p).2[i]? = p.2[i]? := by
            obtain ⟨r, hr⟩ := g2
            rw [← hr, List.getElem?_append_left hil]
          rw [this] at hc2
          exact g2.subset (hp i (by omega) c2 hc2 o ho hj)
      obtain ⟨q1, q2, q3⟩ := GI.go c0 f (k + 1) _ g1 hp2 (by omega) (by omega)
      exact ⟨q1, g2.trans q2, q3⟩
theorem go_ok (T : PT ls t) (c0 : Clo ls t) (h : first ∉ t.L) (hl : first < ls.length) : PT ls (goAll ls first t) ∧ Clo ls (goAll ls first t) ∧ (∀ i, i ∈ t.L → i ∈ (goAll ls first t).L) ∧ first ∈ (goAll ls first t).L := by
  have G0 : GI ls first t (t.add first 1 first none, [first]) := ⟨T.add h hl (fun _ => ⟨rfl, rfl⟩) (fun j e => nomatch e), rfl, fun i hi => by rw [List.mem_singleton.mp hi]; exact add_eq.2.1, fun i hi => (add_ne (t := t) (i := first) (j := i) (fun z => h (z ▸ hi))).2.1⟩
  obtain ⟨g1, g2, g3⟩ := GI.go c0 (ls.length + 1) 0 _ G0 (fun i hi => by omega) (Nat.zero_le _) (by omega)
  unfold goAll
  generalize goF ls first (ls.length + 1) 0 (t.add first 1 first none, [first]) = p at g1 g2 g3
  refine ⟨g1.pt, fun i hi j hj hn => ?_, fun i hi => by rw [g1.L]; exact List.mem_append.mpr (.inl hi), by rw [g1.L]; exact List.mem_append.mpr (.inr (g2.subset List.mem_cons_self))⟩
  rw [g1.L] at hi
  rw [g1.L]
  rcases List.mem_append.mp hi with hi | hi
  · obtain ⟨a, b⟩ := c0 i hi j hj hn
    refine ⟨List.mem_append.mpr (.inl a), ?_⟩
    rw [g1.old i hi, g1.old j a, b]
  · obtain ⟨n, hn1, hn2⟩ := List.getElem_of_mem hi
    have := g3 n hn1 i (by rw [List.getElem?_eq_getElem hn1, hn2]) j hj hn
    exact ⟨List.mem_append.mpr (.inr this), by rw [g1.hd i hi, g1.hd j this]⟩
theorem net_part (ls : List (Int × Int)) : ∀ n, n ≤ ls.length → PT ls ((List.range n).foldl (netStep ls) nt0) ∧ Clo ls ((List.range n).foldl (netStep ls) nt0) ∧ ∀ i, i < n → i ∈ ((List.range n).foldl (netStep ls) nt0).L := by
    intro n
    induction n with
    | zero => intro _; exact ⟨⟨List.nodup_nil, (fun i h => nomatch h), (fun i h => nomatch h), (fun i j h => nomatch h)⟩, (fun i h => nomatch h), fun i h => by omega⟩
    | succ n ih =>
      intro hn
      obtain ⟨g1, g2, g3⟩ := ih (by omega)
      rw [List.range_succ, List.foldl_append]
      show PT ls (netStep ls _ n) ∧ Clo ls (netStep ls _ n) ∧ ∀ i, i < n + 1 → i ∈ (netStep ls _ n).L
      generalize (List.range n).foldl (Px.netStep ls) nt0 = t at g1 g2 g3 ⊢
      unfold netStep
      by_cases c : n ∈ t.L
      · rw [if_pos c]
        refine ⟨g1, g2, fun i hi => ?_⟩
        by_cases z : i = n
        · subst z; exact c
        · exact g3 i (by omega)
      · rw [if_neg c]
        obtain ⟨a1, a2, a3, a4⟩ := go_ok g1 g2 c (show n < ls.length by omega)
        refine ⟨a1, a2, fun i hi => ?_⟩
        by_cases z : i = n
        · subst z; exact a4
        · exact a3 i (g3 i (by omega))
theorem net_ok (ls : List (Int × Int)) : PT ls (netF ls) ∧ Clo ls (netF ls) ∧ ∀ i, i < ls.length → i ∈ (netF ls).L := net_part ls _ (Nat.le_refl _)
theorem net_tree (ls : List (Int × Int)) : Tree ls (netF ls).S (netF ls).Hd (netF ls).A (netF ls).L := by
  obtain ⟨T, c, h⟩ := net_ok ls
  exact ⟨fun i => ⟨T.lt i, h i⟩, T.root, T.step, fun i j hi hj hn => (c i hi j (T.lt j hj) hn).2⟩
end
end Px
set_option Elab.async false
set_option linter.all false
set_option maxRecDepth 100000
namespace Px
open PySem PySem.Spec PyProof.Rows L2
mutual
def noL : D → Bool
  | .non | .bl _ | .int _ | .str _ => true
  | .tup l => noLL l
  | .obj _ _ l => noLL l
  | .lst _ | .dic _ _ | .raw _ | .scr _ | .clo _ _ _ _ _ | .fnc _ _ _ _ | .exv _ _ _ _ _ => false
def noLL : List D → Bool
  | [] => true
  | d :: r => noL d && noLL r
end
section
variable {K : PySem.W.Frag} {F F2 : Hp}
mutual
theorem Rp.noL (e : ∀ a o, F a = some o → (∀ xs, o ≠ .lst xs) → F2 a = some o) : ∀ (d : D) (v : V), Px.noL d = true → Rp K F d v → Rp K F2 d v
  | .non, _, _, h => h
  | .bl _, _, _, h => h
  | .int _, _, _, h => h
  | .str _, _, _, h => h
  | .tup l, _, n, ⟨a, xs, e1, s, r⟩ => ⟨a, xs, e1, by
      rcases s with (s | ⟨o, s⟩) | s
      · exact .inl (.inl (e a _ s fun _ z => by cases z))
      · exact .inl (.inr ⟨o, e a _ s fun _ z => by cases z⟩)
      · exact .inr s, RpL.noL e l xs n r⟩
  | .obj _ _ l, _, n, ⟨a, dx, fs, e1, s, k, r⟩ => ⟨a, dx, fs, e1, e a _ s (fun _ z => by cases z), k, RpL.noL e l _ n r⟩
  | .lst _, _, n, _ => by cases n
  | .dic _ _, _, n, _ => by cases n
  | .raw _, _, n, _ => by cases n
  | .scr _, _, n, _ => by cases n
  | .clo _ _ _ _ _, _, n, _ => by cases n
  | .fnc _ _ _ _, _, n, _ => by cases n
  | .exv _ _ _ _ _, _, n, _ => by cases n
theorem RpL.noL (e : ∀ a o, F a = some o → (∀ xs, o ≠ .lst xs) → F2 a = some o) : ∀ (l : List D) (xs : List V), noLL l = true → RpL K F l xs → RpL K F2 l xs
  | [], _, _, h => h
  | d :: l, _, n, ⟨x, r, e1, h, t⟩ => by
    have n : (Px.noL d && noLL l) = true := n
    rw [Bool.and_eq_true] at n
    exact ⟨x, r, e1, Rp.noL e d x n.1 h, RpL.noL e l r n.2 t⟩
end
end
def VwL (K : PySem.W.Frag) (σ : L2.St) (ρ : Rho) (F : Hp) : List D → List V → Prop
  | [], vs => vs = []
  | d :: ds, vs => ∃ v r, vs = v :: r ∧ Vw K σ ρ F d v ∧ VwL K σ ρ F ds r
theorem VwL.mono {K : PySem.W.Frag} {σ : L2.St} {ρ : Rho} {F F' : Hp} (e : Same F F') : ∀ {ds : List D} {vs : List V}, VwL K σ ρ F ds vs → VwL K σ ρ F' ds vs
  | [], _, h => h
  | _ :: _, _, ⟨v, r, e1, h, t⟩ => ⟨v, r, e1, h.mono e, VwL.mono e t⟩
theorem VwL.len {K : PySem.W.Frag} {σ : L2.St} {ρ : Rho} {F : Hp} : ∀ {ds : List D} {vs : List V}, VwL K σ ρ F ds vs → ds.length = vs.length
  | [], _, h => by rw [show _ = [] from h]; rfl
  | _ :: _, _, ⟨v, r, e1, h, t⟩ => by rw [e1, List.length_cons, List.length_cons, VwL.len t]
def realAO (K : PySem.W.Frag) (W : WX) (p : PTA) : TA := fun σ H Q => ∃ g ρ M F O q w, Ab K g σ H ρ M F O ∧ p w ρ M q ∧ WOk K g F W w ∧
  ∀ vs H' F' O' M' ds, Ab K g σ H' ρ M' F' O' → Same F F' → VwL K σ ρ F' ds vs → q ds M' → Q vs H'
abbrev DAO (X : Cx) (W : WX) (es : List Expr) (p : PTA) : Prop := PA X es (realAO X.K W p)
section
variable {X : Cx} {W : WX} {e : Expr} {es : List Expr} {pe : PTE} {pl : PTA}
theorem dao_nil : DAO X W [] dNil := pa_imp pa_nil fun σ H Q ⟨g, ρ, M, F, O, q, w, A, p, hw, k⟩ => k [] H F O M [] A (Same.refl F) rfl p
theorem dao_cons (ha : DO X W e pe) (hr : DAO X W es pl) (hs : starEach (e :: es) X.env = (false, eval e X.env) :: starEach es X.env := by rfl) : DAO X W (e :: es) (dCons pe pl) := pa_imp (pa_cons ha hr hs) fun σ H Q ⟨g, ρ, M, F, O, q, w, A, p, hw, k⟩ =>
  ⟨g, ρ, M, F, O, _, w, A, p, hw, fun v H1 F1 O1 M1 d A1 s1 r1 q1 => ⟨g, ρ, M1, F1, O1, _, w, A1, q1, hw.mono s1, fun vs H2 F2 O2 M2 ds A2 s2 r2 q2 => k (v :: vs) H2 F2 O2 M2 (d :: ds) A2 (s1.trans s2) ⟨v, vs, rfl, r1.mono s2, r2⟩ q2⟩⟩
end
def lentA (σ : L2.St) (ρ : Rho) (b : Addr) : Prop := ∃ i l, gt ρ i = some (.own l) ∧ σ[i]? = some (some (.ref b))
open Classical in
noncomputable def lentF (σ : L2.St) (ρ : Rho) (H F : Hp) : Hp := fun b => if lentA σ ρ b then H b else F b
open Classical in
noncomputable def backF (σ : L2.St) (ρ : Rho) (F : Hp) : Hp := fun b => if lentA σ ρ b then none else F b
section
variable {K : PySem.W.Frag} {g : Gh} {σ : L2.St} {H F : Hp} {ρ : Rho} {M : Mm} {O : Own} {a b dx : Addr} {C : Addr}
theorem lent_is (A : Ab K g σ H ρ M F O) (h : lentA σ ρ b) : ∃ i l xs, gt ρ i = some (.own l) ∧ H b = some (.lst xs) ∧ RpL K F l xs ∧ O b = some (.slot i) ∧ F b = none := by
  obtain ⟨i, l, e1, e2⟩ := h
  obtain ⟨v, e3, p, xs, rfl, h1, h2, h3⟩ := A.sl i _ e1
  rw [e3] at e2
  cases e2
  exact ⟨i, l, xs, e1, h1, h2, h3, (A.liv _ _ h3).2.1⟩
theorem lent_same (A : Ab K g σ H ρ M F O) : Same F (lentF σ ρ H F) := fun b o e => by
  unfold lentF
  rw [if_neg]
  · exact e
  · intro z
    obtain ⟨_, _, _, _, _, _, _, z2⟩ := lent_is A z
    rw [z2] at e; cases e
theorem lent_sub (A : Ab K g σ H ρ M F O) : Same (lentF σ ρ H F) H := fun b o e => by
  unfold lentF at e
  split at e
  · exact e
  · exact A.sub b o e
theorem lent_vw (A : Ab K g σ H ρ M F O) {d : D} {v : V} (h : Vw K σ ρ F d v) : Rp K (lentF σ ρ H F) d v := by
  rcases h with h | ⟨i, l, p, h1, h2, rfl, rfl⟩
  · exact Rp.mono (lent_same A) _ _ h
  · have z : lentA σ ρ p := ⟨i, l, h1, h2⟩
    obtain ⟨v, e3, p2, xs, rfl, h3, h4, h5⟩ := A.sl i _ h1
    rw [h2] at e3
    cases e3
    refine ⟨p, xs, rfl, ?_, RpL.mono (lent_same A) _ _ h4⟩
    unfold lentF
    rw [if_pos z]; exact h3
theorem lent_vwL (A : Ab K g σ H ρ M F O) : ∀ {ds : List D} {vs : List V}, VwL K σ ρ F ds vs → RpL K (lentF σ ρ H F) ds vs
  | [], _, h => h
  | _ :: _, _, ⟨v, r, e1, h, t⟩ => ⟨v, r, e1, lent_vw A h, lent_vwL A t⟩
end
section
variable {X : Cx} {W : WX} {k n : Nat} {f C : Addr} {fd : FuncData} {ps : List Str} {sp : PSp} {x : Str} {p pos : Pos} {e : Expr} {es : List Expr} {pl : PTA}
end
end Px
set_option Elab.async false
set_option linter.all false
set_option maxRecDepth 100000
namespace Px
open PySem PySem.Spec PyProof.Rows PySem.W PySem.Calls PySem.HandSPX
section
variable {M : Model} {A : Around} {E : Value → Shared → Prop} {h : Heap} {g : Array GenState} {d : Drawn} {t : Nat} {os : OsState}
variable {nm q : Str} {C N : Addr} {bs bm bmB : List Value} {hdct : Bool} {sn : List Str} {sub : List Value} {ab : Bool} {col : Option Bool} {dd : Option Addr} {k0 k1 k2 k3 k5 : Option Value} {B newId initId : String}
end
section
variable {prog : Program} {w : World} {A : Around} {E : Value → Shared → Prop} {R : Result → Shared → Prop} {h : Heap} {g : Array GenState} {d : Drawn} {t : Nat} {os : OsState}
variable {nm q : Str} {C N : Addr} {bs bm bmB : List Value} {hdct : Bool} {sn : List Str} {sub : List Value} {ab : Bool} {col : Option Bool} {dd : Option Addr} {k0 k1 k2 k3 k5 : Option Value} {B newId initId : String}
end
def KwI (K : Frag) (fI : Addr) (x : Str) : Prop := ∀ (oc : Value) (od : Option Addr) (fd : FuncData) (osl : Array (Option Value)), K.lookup fI = some ⟨oc, od, .func fd, osl⟩ → ∀ (s : Shared) (e u : Value), BindsTo s fd ⟨[e], [(x, u)]⟩ [("self", e), (x, u)]
section
variable {prog : Program} {w : World} {A : Around} {R : Result → Shared → Prop} {K : Frag} {C fI e t0 : Addr} {u : Value} {x f : Str} {mg mb : Str → Option Value} {s : Shared} {ag : Args}
end
section
open L2
variable {X : Cx} {p pos : Pos} {e : Expr} {te : TE}
end
end Px
namespace Px
open PySem PySem.Spec PyProof.Rows L2
structure ExkTxt (P : Program) (K : PySem.W.Frag) (mg : Str → Option Value) (x : Str) (C : Addr) (f px : Str) : Prop where
  g : mg x = some (.ref C)
  s : mg "super" = none
  o : L2.OexC K C
  i : ∃ fI : Addr, InitA P K C fI px f ∧ PySem.W.findIn K (.ref C) "__init__" = some (some (.ref fI)) ∧ PySem.W.typeIn K (.ref fI) = some (.type "function") ∧ KwI K fI px
section
variable {X : Cx} {W : WX} {k : Nat} {C : Addr} {x f px : Str} {p pos : Pos} {e : Expr} {pe : PTE} {pl : PTA} {kws : List Keyword}
end
end Px
set_option Elab.async false
set_option linter.all false
set_option maxRecDepth 100000
namespace Px
open PySem PySem.Spec PyProof.Rows L2
def flV : D → Option V
  | .non => some .non
  | .bl b => some (.bl b)
  | .int i => some (.int i)
  | .str s => some (.str s)
  | _ => none
def flVs : List D → Option (List V)
  | [] => some []
  | d :: r => match flV d, flVs r with
    | some v, some vs => some (v :: vs)
    | _, _ => none
def itemsF : D → Option (List V)
  | .lst l => flVs l
  | .tup l => flVs l
  | _ => none
def fInF (neg : Bool) : F2 := fun x y k => match flV x, itemsF y with
  | some v, some vs => k (.bl (if neg then !inV v vs else inV v vs))
  | _, _ => False
theorem flV_rp {K : PySem.W.Frag} {F : Hp} {d : D} {v u : V} (h : flV d = some u) (r : Rp K F d v) : v = u ∧ flatV u = true := by
  cases d with
  | non => cases h; exact ⟨r, rfl⟩
  | bl b => cases h; exact ⟨r, rfl⟩
  | int i => cases h; exact ⟨r, rfl⟩
  | str s => cases h; exact ⟨r, rfl⟩
  | _ => cases h
theorem flVs_rp {K : PySem.W.Frag} {F : Hp} : ∀ {l : List D} {xs us : List V}, flVs l = some us → RpL K F l xs → xs = us ∧ us.all flatV = true
  | [], _, _, h, r => by cases h; exact ⟨r, rfl⟩
  | d :: l, _, us, h, ⟨x, t, e1, r1, r2⟩ => by
    simp only [flVs] at h
    split at h
    · rename_i v vs h1 h2
      cases h
      obtain ⟨rfl, f1⟩ := flV_rp h1 r1
      obtain ⟨rfl, f2⟩ := flVs_rp h2 r2
      exact ⟨e1, by rw [List.all_cons, f1, f2]; rfl⟩
    · cases h
theorem opf_inF {K : PySem.W.Frag} (neg : Bool) : OpF K (rIn K neg) (fInF neg) := by
  intro g σ H ρ M F O x y v u k Q A rx ry h c
  unfold fInF at h
  split at h
  · rename_i a vs e1 e2
    have rx' : Rp K F x v := by
      cases x with
      | non => exact rx.non
      | bl b => exact rx.bl
      | int i => exact rx.int
      | str s => exact rx.str
      | _ => cases e1
    obtain ⟨rfl, f1⟩ := flV_rp e1 rx'
    cases y with
    | lst l =>
      obtain ⟨p, xs, e3, h1, rl⟩ := ry.lst A
      obtain ⟨rfl, f2⟩ := flVs_rp e2 rl
      exact ⟨p, _, e3, .inl (.inl (.inl h1)), f1, f2, c (.bl (if neg then !inV _ _ else inV _ _)) _ H F O A (Same.refl F) rfl h⟩
    | tup l =>
      obtain ⟨p, xs, e3, h1, rl⟩ := ry.tupF
      obtain ⟨rfl, f2⟩ := flVs_rp e2 rl
      exact ⟨p, _, e3, .inr (same_t A.sub h1), f1, f2, c (.bl (if neg then !inV _ _ else inV _ _)) _ H F O A (Same.refl F) rfl h⟩
    | _ => cases e2
  · exact h.elim
section
variable {X : Cx} {W : WX} {a b : Expr} {pa pb : PTE} {pos : Pos}
theorem de_inF (ha : DO X W a pa) (hb : DO X W b pb) (hm : behindInMarks .In b = false := by rfl) : DE X W (.Compare a [.In] [b] pos) (dOp (fInF false) pa pb) := de_cmp op_in_seq (opf_inF false) ha hb hm
theorem dt_inF (ha : DO X W a pa) (hb : DO X W b pb) (hm : behindInMarks .In b = false := by rfl) : DT X W (.Compare a [.In] [b] pos) (dTst (dOp (fInF false) pa pb)) := dt_cmp op_in_seq (opf_inF false) ha hb hm
end
end Px
set_option Elab.async false
set_option linter.all false
set_option maxRecDepth 100000
namespace Px
open PySem PySem.Spec PyProof.Rows L2
section
variable {X : Cx} {W : WX} {a o e : Expr} {pa po pe : PTE} {p pos apos : Pos}
end
end Px
set_option Elab.async false
set_option linter.all false
set_option maxRecDepth 100000
namespace GQ
open PySem PySem.SeqAt
open AutoSeq1 (wpAny_loadPart')
open MeetsSeq MeetsSeq2 MeetsSeq3 SeqRoads2
section
variable {prog : Program} {w : World} {A : Around} {R : Result → Shared → Prop}
end
section
variable {prog : Program} {w : World} {A : Around} {E : Value → Shared → Prop} {s : Shared}
end
end GQ
namespace Px
open PySem PySem.Spec PyProof.Rows L2
section
variable {X : Cx} {W : WX} {k n : Nat} {f C : Addr} {fd : FuncData} {ps : List Str} {sp : PSp} {pos : Pos} {a b : Expr} {pa pb : PTE}
end
end Px
set_option Elab.async false
set_option linter.all false
set_option maxRecDepth 100000
namespace Px
open PySem PySem.Spec PyProof.Rows L2
def rSortedN (K : PySem.W.Frag) : List V → Hp → VK → Prop := fun vs H Q => ∃ (a : Addr) (ns : List Int), vs = [V.ref a] ∧ SqL K H a (ns.map V.int) ∧ ns.length ≤ 4096 ∧
  ∀ (ms : List Int) (p : Addr), ms.Perm ns → ms.Pairwise (· ≤ ·) → H p = none → Q (.ref p) (upd H p (.lst (ms.map V.int)))
theorem cr_sortedN {X : Cx} : CallR X (.builtin "sorted") (rSortedN X.K) := by
  intro pins s σ H vs us Q I r h
  obtain ⟨a, ns, rfl, hs, h4, q⟩ := h
  have lz : ns.length ≤ sizeLine := by rw [sizeLine_eq]; omega
  obtain ⟨its, rv, hl, _⟩ := I.list hs
  rw [Vals.ref1 r]
  refine PyProof.Rows.sorted_intsAny hl.isList rv.ints (by rw [rv.ints.length]; exact lz) fun out ms h1 h2 h3 => ?_
  obtain ⟨ep, he⟩ := PyProof.Rows.sortedAll_at s.heap its out
  exact ⟨.ref _, upd H (s.heap.objs.size + 1) (.lst (ms.map V.int)), I.laid (t' := s.toks) (fun _ _ => PyProof.Rows.sortedAll_old) (Nat.le_succ _) ⟨by rw [List.length_map, h2.length_eq]; exact lz, out.toList, ep, vals_of_ints h1, he⟩, rfl, q ms _ h2 h3 (I.hok.fresh (Nat.le_succ _))⟩
def fSortI : G1 := fun x k => ∃ ns : List Int, x = .lst (ns.map .int) ∧ ns.length ≤ 4096 ∧ ∀ ms : List Int, ms.Perm ns → ms.Pairwise (· ≤ ·) → k (ms.map .int)
theorem bg_sortI {K : PySem.W.Frag} : BG1 K (rSortedN K) fSortI := by
  intro g σ H ρ M F O x v k Q A rx h c
  obtain ⟨ns, rfl, hl, hq⟩ := h
  obtain ⟨a, xs, e, hp, rl⟩ := rx.lst A
  have ex := rl.ints
  subst ex
  exact ⟨a, ns, by rw [e], .inl (.inl hp), hl, fun ms p h1 h2 hn => c (ms.map .int) p _ hn (RpL.of_ints ms) (hq ms h1 h2)⟩
section
variable {X : Cx} {W : WX} {a : Expr} {pa : PTE} {p pos : Pos}
theorem dl_sortI (hg : Gl X "sorted") (hm : X.mg "sorted" = none) (ha : DO X W a pa) (he : starEach [a] X.env = (false, eval a X.env) :: starEach [] X.env := by rfl) (hpl : (backTo pos (starEach [] X.env)).any (·.1) = false := by rfl) :
    DL X W (.Call (.Name "sorted" p) [a] [] pos) (dG1 fSortI pa) := dl_b1 cr_sortedN bg_sortI hg hm (by decide +kernel) ha (by decide) (by decide) he hpl
end
end Px
set_option Elab.async false
set_option linter.all false
set_option maxRecDepth 100000
namespace Px
open PySem PySem.Spec PyProof.Rows L2
section
variable {X : Cx} {W : WX} {a b e : Expr} {pa pb pe : PTE} {pos p : Pos}
def dCnt : PTS := fun _ P ρ M => P.ct ρ M
theorem ds_continue : DS X W (.Continue pos) dCnt := ps_imp ps_continue fun D σ H ⟨g, ρ, M, F, O, P, w, A, h, hw, k1, k2, k3, k4, _⟩ => k4 σ H ρ M F O A (Same.refl F) h
def dAug (i : Nat) (pe : PTE) : PTS := fun w P ρ M => ∃ a, gt ρ i = some (.val (.int a)) ∧ pe w ρ M fun d M1 => ∃ b, d = .int b ∧ P.nx (st ρ i (.val (.int (a + b)))) M1
theorem ds_aug (i : Nat) {x : Str} {pos' : Pos} (hN : X.N.Nodup) (he : DE X W e pe) (hi : X.N[i]? = some x := by rfl) (hx : Loc X.env.scope x := by first | exact Or.inl rfl | exact Or.inr rfl)
    (hf : X.fn x = true ∨ X.env.scope.names.lookup x = some .local := by first | exact .inl rfl | exact .inr rfl) : DS X W (.AugAssign (.Name x pos') .Add e pos) (dAug i pe) := ps_imp (ps_aug hN hi hx he ip_add hf) fun D σ H ⟨g, ρ, M, F, O, P, w, A, ⟨a, ha, h⟩, hw, k1, _⟩ => by
  obtain ⟨v, e1, rv⟩ := A.sl i _ ha
  have ev : v = V.int a := rv
  subst ev
  exact ⟨_, e1, g, ρ, M, F, O, _, w, A, h, hw, fun v H' F' O' M' d A' s r ⟨b, eb, q⟩ => by
    subst eb
    have ev : v = V.int b := r
    subst ev
    exact ⟨a, b, rfl, rfl, k1 _ H' _ M' F' O' (A'.put (show Rp X.K F' (.int (a + b)) (.int (a + b)) from rfl)) s q⟩⟩
end
end Px
set_option Elab.async false
set_option linter.all false
set_option maxRecDepth 100000
namespace Px
open PySem PySem.Spec PyProof.Rows L2
section
variable {X : Cx} {W : WX} {pa : PTE}
end
end Px
set_option Elab.async false
set_option linter.all false
set_option maxRecDepth 100000
namespace Px
open PySem PySem.Spec PyProof.Rows L2
def ActB (P : Program) (w : World) (K : PySem.W.Frag) (mg : Str → Option Value) (base : Heap) (j : Nat) (outer0 : List Env) (H0 : Hp) (h0 : Heap) (c : PC) (cl : D) : Prop :=
  ∀ (CXg : CXT) (Ng : List Str) (qg : Str) (sg : Scope) (g : Addr) (cdg : Value) (A1 : Around) (outer1 : List Env) (s1 : Shared) (H1 : Hp) (Eg : XK) (a : Str),
    Un (frs outer0) [] H0 H1 h0 s1.heap → (∀ b ∈ frs outer1, b ∈ frs outer0 ∨ h0.get? b = none) → Room (j + 1) (A1.deeper (envOfC qg sg s1.heap.objs.size g cdg)) → A1.guards = some [] →
    Ng[0]? = some a → Vis sg a → (a == ("__debug__" : Str)) = false → (a == ("__classdict__" : Str)) = false →
    actIn (cxOf CXg P w K mg base Ng qg sg g cdg A1 outer1 s1 H1 Eg) a c cl
section
variable (P : Program) (w : World) (K : PySem.W.Frag) (mg : Str → Option Value) (base : Heap)
structure FnB (j l : Nat) (f : Addr) (fd : FuncData) (a qual : Str) (stm : Stmt) (N : List Str) (TT : PC → PC) : Prop where
  run : ∀ (A : Around) (outer : List Env) (s : Shared) (H : Hp) (u : Value) (cl : D) (v : V) (c : PC) (Q : VK) (E : XK), Room (l + 1) A → A.guards = some [] → Env0 P w K mg base A outer s H → BindsTo s fd ⟨[u], []⟩ [(a, u)] → RelV v u →
    ActB P w K mg base j outer H s.heap c cl → toSpC K TT c cl v H Q E →
    codeAny (model P w) A (.call (.ref f) ⟨[u], []⟩) (CR (L2.CX P w) outer P w H s Q E) s
end
section
variable {P : Program} {w : World} {K : PySem.W.Frag} {mg : Str → Option Value} {base : Heap} {j l : Nat}
end
section
variable {P : Program} {w : World} {K : PySem.W.Frag} {mg : Str → Option Value} {base : Heap} {j l : Nat} {f : Addr} {fd : FuncData} {N : List Str}
end
section
variable {X : Cx} {W : WX} {k l : Nat} {g c P : Addr} {fd : FuncData} {a x qual qn : Str} {stm : Stmt} {N : List Str} {TT : PC → PC} {prm : Arguments} {bd : Expr} {scp : Scope} {lp p pos : Pos} {pb : PTE}
end
end Px
set_option Elab.async false
set_option linter.all false
set_option maxRecDepth 100000
namespace Px
open PySem PySem.Spec PyProof.Rows L2
structure DefAt (X : Cx) (k : Nat) (f : Addr) (sp : PSp) : Prop where
  ex : ∃ (fd : FuncData) (ps : List Str) (n : Nat), FnG X.prog X.w X.K X.mg X.base k f fd ps (toSp X.K n sp) ∧ ps.length = n ∧ (∀ ds M q e, sp ds M q e → ds.length = n) ∧ PySem.W.keepIn X.K (.ref f) = true ∧ Binds X.K fd ps []
section
variable {X : Cx} {W : WX} {k i : Nat} {x : Str} {p pos : Pos} {e : Expr} {es : List Expr} {pl : PTA} {f : Addr}
end
end Px
set_option Elab.async false
set_option linter.all false
set_option maxRecDepth 100000
namespace Px
open PySem PySem.Spec PyProof.Rows L2
section
variable {X : Cx} {pins : List (Addr × Obj)} {σ : L2.St} {H : Hp} {s : Shared} {d : Addr} {o : Obj}
end
section
variable {P : Program} {w : World} {K : PySem.W.Frag} {tg : Expr} {d : Addr} {o : Obj} {es : Array DictEntry} {ep : Nat}
end
section
variable {X : Cx} {W : WX} {tg e elt iter : Expr} {td : TE} {pos : Pos} {scope : Scope} {own : List (Str × Nat)}
end
end Px
set_option Elab.async false
set_option linter.all false
set_option maxRecDepth 100000
namespace Px
open PySem PySem.Spec PyProof.Rows L2
section
variable {X : Cx} {W : WX} {pos : Pos} {keys : List (Option Expr)} {values : List Expr} {trs : List (TE × TE)}
end
end Px
set_option Elab.async false
set_option linter.all false
set_option maxRecDepth 100000
namespace Px
open PySem PySem.Spec PyProof.Rows L2
section
variable {prog : Program} {w : World} {A : Around} {E : Value → Shared → Prop}
def Pr2 (h : Heap) (ta : Addr) (a b : Int) : Prop := ∃ t1 t2, PyProof.Rows.IsTup h ta #[.int a t1, .int b t2]
theorem Pr2.keep {h h' : Heap} {ta : Addr} {a b : Int} (p : Pr2 h ta a b) (k : ∀ b o, h.get? b = some o → h'.get? b = some o) : Pr2 h' ta a b := by
  obtain ⟨t1, t2, o, e1, e2⟩ := p
  exact ⟨t1, t2, o, k _ _ e1, e2⟩
end
structure LamS1 (sc scope : Scope) (x c : Str) : Prop where
  kind : scope.kind = .function
  co : scope.isCoroutine = false
  gen : scope.isGenerator = false
  own : ∀ y ∈ scope.names, y.2 ≠ .cell
  xl : scope.names.lookup x = some .local
  cf : scope.names.lookup c = some .free
  free : ∀ y ∈ scope.names, y.2 = .free → sc.names.lookup y.1 = some .cell ∨ sc.names.lookup y.1 = some .free
section
variable {X : Cx} {pins : List (Addr × Obj)} {σ : L2.St} {H : Hp} {s : Shared} {f c' : Addr} {pm ctv : Value} {prm : Arguments} {scp : Scope} {x c : Str} {k1 k2 ic : Nat} {p1 p2 p3 p4 p5 p6 p7 p8 p9 : Pos}
end
end Px
set_option Elab.async false
set_option linter.all false
set_option maxRecDepth 100000
namespace Px
open PySem PySem.Spec PyProof.Rows L2
section
variable {X : Cx} {W : WX} {y : Str} {p1 p2 p3 pos : Pos}
end
end Px
set_option Elab.async false
set_option linter.all false
set_option maxRecDepth 100000
namespace Px
open PySem PySem.Spec PyProof.Rows L2
section
variable {X : Cx} {W : WX} {c P L : Addr} {qn x cn y : Str} {prm : Arguments} {scp : Scope} {k1 k2 i ic : Nat} {lp pos p1 p2 p3 p4 p5 p6 p7 p8 p9 q1 q2 q3 q4 q5 : Pos}
end
end Px
set_option Elab.async false
set_option linter.all false
set_option maxRecDepth 100000
namespace Px
open PySem PySem.Spec PyProof.Rows L2
section
variable {X : Cx} {W : WX} {c e : Expr} {pt : PTT} {pl : PTA} {pos : Pos}
end
end Px
set_option Elab.async false
set_option linter.all false
set_option maxRecDepth 100000
namespace Px
open PySem PySem.Spec PyProof.Rows L2
section
variable {K : PySem.W.Frag} {g : Gh} {σ : L2.St} {H : Hp} {ρ : Rho} {M : Mm} {F : Hp} {O : Own} {p : Addr} {mo : Mo}
end
section
variable {X : Cx} {W : WX} {a b e i : Expr} {pa pb pe : PTE} {pl : PTA} {pos p : Pos}
end
end Px
set_option Elab.async false
set_option linter.all false
set_option maxRecDepth 100000
namespace Px
open PySem PySem.Spec PyProof.Rows L2
section
variable {X : Cx} {W : WX} {pa : PTE} {pl : PTA}
end
section
variable {X : Cx} {pins : List (Addr × Obj)} {σ : L2.St} {H F : Hp} {s : Shared}
end
section
variable {X : Cx} {W : WX} {a : Expr} {pa : PTE} {p pos : Pos}
end
end Px
set_option Elab.async false
set_option linter.all false
set_option maxRecDepth 100000
namespace Px
open PySem PySem.Spec PyProof.Rows L2
def keyD : D → Option Key
  | .int i => some (.inl i)
  | .str s => some (.inr s)
  | _ => none
def getDK (kvs : List (Key × D)) (k : Key) : Option D := (kvs.find? fun kv => decide (kv.1 = k)).map (·.2)
def putDK (kvs : List (Key × D)) (k : Key) (d : D) : List (Key × D) :=
  if (kvs.any fun kv => decide (kv.1 = k)) = true then kvs.map (fun kv => if kv.1 = k then (kv.1, d) else kv) else kvs ++ [(k, d)]
theorem getDK_pos {p : Key × D} {r : List (Key × D)} {k : Key} (e : p.1 = k) : getDK (p :: r) k = some p.2 := by simp [getDK, List.find?_cons, e]
theorem getDK_neg {p : Key × D} {r : List (Key × D)} {k : Key} (e : ¬ p.1 = k) : getDK (p :: r) k = getDK r k := by simp [getDK, List.find?_cons, e]
theorem any_DK (k : Key) : ∀ kvs : List (Key × D), (kvs.any fun kv => decide (kv.1 = k)) = (getDK kvs k).isSome
  | [] => rfl
  | p :: r => by
    rw [List.any_cons]
    by_cases e : p.1 = k
    · rw [getDK_pos e, decide_eq_true e]; rfl
    · rw [getDK_neg e, decide_eq_false e, Bool.false_or]; exact any_DK k r
theorem getDK_map (k j : Key) (y : D) : ∀ kvs : List (Key × D), getDK (kvs.map fun kv => if kv.1 = k then (kv.1, y) else kv) j = (getDK kvs j).map fun x => if j = k then y else x
  | [] => rfl
  | p :: r => by
    rw [List.map_cons]
    by_cases e : p.1 = k
    · rw [if_pos e]
      by_cases f : p.1 = j
      · rw [getDK_pos (show (p.1, y).1 = j from f), getDK_pos f]
        show some y = some (if j = k then y else p.2)
        rw [if_pos (f ▸ e)]
      · rw [getDK_neg (show ¬ (p.1, y).1 = j from f), getDK_neg f]; exact getDK_map k j y r
    · rw [if_neg e]
      by_cases f : p.1 = j
      · rw [getDK_pos f, getDK_pos f]
        show some p.2 = some (if j = k then y else p.2)
        rw [if_neg fun z => e (f.trans z)]
      · rw [getDK_neg f, getDK_neg f]; exact getDK_map k j y r
theorem getDK_snoc (k j : Key) (y : D) : ∀ kvs : List (Key × D), getDK kvs k = none → getDK (kvs ++ [(k, y)]) j = if j = k then some y else getDK kvs j
  | [], _ => by
    by_cases f : k = j
    · rw [if_pos f.symm]; exact getDK_pos f
    · rw [if_neg fun z => f z.symm]; exact getDK_neg f
  | p :: r, h => by
    have e : ¬ p.1 = k := fun z => by rw [getDK_pos z] at h; cases h
    rw [getDK_neg e] at h
    rw [List.cons_append]
    by_cases f : p.1 = j
    · rw [getDK_pos f, getDK_pos f, if_neg fun z => e (f.trans z)]
    · rw [getDK_neg f, getDK_neg f]; exact getDK_snoc k j y r h
theorem getDK_put (kvs : List (Key × D)) (k j : Key) (y : D) : getDK (putDK kvs k y) j = if j = k then some y else getDK kvs j := by
  unfold putDK
  rw [any_DK]
  cases e : getDK kvs k with
  | none => rw [if_neg (by simp)]; exact getDK_snoc k j y kvs e
  | some x =>
    rw [if_pos (show (some x).isSome = true from rfl), getDK_map]
    by_cases f : j = k
    · rw [if_pos f, f, e]; show some (if k = k then y else x) = _; rw [if_pos rfl]
    · rw [if_neg f]
      cases e2 : getDK kvs j with
      | none => rfl
      | some z => show some (if j = k then y else z) = _; rw [if_neg f]
theorem putDK_len (kvs : List (Key × D)) (k : Key) (d : D) : (putDK kvs k d).length ≤ kvs.length + 1 := by
  unfold putDK
  split
  · rw [List.length_map]; omega
  · rw [List.length_append]; exact Nat.le_refl _
section
variable {K : PySem.W.Frag} {F : Hp}
theorem getDK_rel {k : Key} : ∀ {kvs : List (Key × D)} {ys : List (Key × V)}, ys.map (·.1) = kvs.map (·.1) → RpL K F (kvs.map (·.2)) (ys.map (·.2)) → match getDK kvs k with
    | some d => ∃ v, valV ys k = some v ∧ Rp K F d v
    | none => valV ys k = none
  | [], [], _, _ => rfl
  | [], _ :: _, e, _ => by cases e
  | _ :: _, [], e, _ => by cases e
  | (n, x) :: r, (m, y) :: ys, e, rl => by
    injection e with e1 e2
    have e1 : m = n := e1
    subst e1
    obtain ⟨v', vr, e3, r1, r2⟩ := rl
    injection e3 with e4 e5
    subst e4
    subst e5
    by_cases c : m = k
    · rw [getDK_pos (p := (m, x)) c]
      exact ⟨y, valV_pos c, r1⟩
    · rw [getDK_neg (p := (m, x)) c, valV_neg (p := (m, y)) c]
      exact getDK_rel e2 r2
theorem mapDK_rel {k : Key} {d : D} {v : V} (hv : Rp K F d v) : ∀ {kvs : List (Key × D)} {ys : List (Key × V)}, ys.map (·.1) = kvs.map (·.1) → RpL K F (kvs.map (·.2)) (ys.map (·.2)) →
    (ys.map fun kv => if kv.1 = k then (kv.1, v) else kv).map (·.1) = (kvs.map fun kv => if kv.1 = k then (kv.1, d) else kv).map (·.1) ∧ RpL K F ((kvs.map fun kv => if kv.1 = k then (kv.1, d) else kv).map (·.2)) ((ys.map fun kv => if kv.1 = k then (kv.1, v) else kv).map (·.2))
  | [], [], _, _ => ⟨rfl, rfl⟩
  | [], _ :: _, e, _ => by cases e
  | _ :: _, [], e, _ => by cases e
  | (n, x) :: r, (m, y) :: ys, e, rl => by
    injection e with e1 e2
    have e1 : m = n := e1
    subst e1
    obtain ⟨v', vr, e3, r1, r2⟩ := rl
    injection e3 with e4 e5
    subst e4
    subst e5
    obtain ⟨i1, i2⟩ := mapDK_rel (k := k) hv e2 r2
    by_cases c : m = k
    · simp only [List.map_cons, if_pos c]
      exact ⟨by rw [List.cons.injEq]; exact ⟨rfl, i1⟩, v, _, rfl, hv, i2⟩
    · simp only [List.map_cons, if_neg c]
      exact ⟨by rw [List.cons.injEq]; exact ⟨rfl, i1⟩, y, _, rfl, r1, i2⟩
theorem RpL.appOne {d : D} {v : V} (hv : Rp K F d v) : ∀ {ds : List D} {xs : List V}, RpL K F ds xs → RpL K F (ds ++ [d]) (xs ++ [v])
  | [], xs, h => by rw [show xs = [] from h]; exact ⟨v, [], rfl, hv, rfl⟩
  | _ :: _, _, ⟨x, r, e, h1, h2⟩ => by rw [e]; exact ⟨x, _, rfl, h1, RpL.appOne hv h2⟩
theorem putDK_rel {k : Key} {d : D} {v : V} (hv : Rp K F d v) {kvs : List (Key × D)} {ys : List (Key × V)} (e : ys.map (·.1) = kvs.map (·.1)) (r : RpL K F (kvs.map (·.2)) (ys.map (·.2))) :
    (putK ys k v).map (·.1) = (putDK kvs k d).map (·.1) ∧ RpL K F ((putDK kvs k d).map (·.2)) ((putK ys k v).map (·.2)) := by
  have h := getDK_rel (k := k) e r
  unfold putDK putK
  rw [any_DK, valV_any]
  cases c : getDK kvs k with
  | some x =>
    rw [c] at h
    obtain ⟨u, hu, _⟩ := h
    rw [hu, if_pos (show (some u).isSome = true from rfl), if_pos (show (some x).isSome = true from rfl)]
    exact mapDK_rel hv e r
  | none =>
    rw [c] at h
    rw [show valV ys k = none from h, if_neg (by simp), if_neg (by simp), List.map_append, List.map_append, List.map_append, List.map_append, e]
    exact ⟨rfl, RpL.appOne hv r⟩
theorem keyD_is {d : D} {k : Key} {v : V} (h : keyD d = some k) (r : Rp K F d v) : v = kV k := by
  cases d with
  | int i => cases h; exact r
  | str s => cases h; exact r
  | _ => cases h
end
def asDk (d : D) (M : Mm) (f : Addr → List (Key × D) → Prop) : Prop := match d with
  | .raw (.ref a) => match M a with | some (.dik l) => f a l | _ => False
  | _ => False
theorem asDk_of {d : D} {M : Mm} {f : Addr → List (Key × D) → Prop} (h : asDk d M f) : ∃ a l, d = .raw (.ref a) ∧ M a = some (.dik l) ∧ f a l := by
  unfold asDk at h
  split at h
  · rename_i a
    split at h
    · rename_i l e
      exact ⟨a, l, rfl, e, h⟩
    · exact h.elim
  · exact h.elim
theorem asDk_in {a : Addr} {M : Mm} {l : List (Key × D)} {f : Addr → List (Key × D) → Prop} (h : M a = some (.dik l)) (k : f a l) : asDk (.raw (.ref a)) M f := by
  unfold asDk
  dsimp only
  rw [h]
  exact k
section
variable {X : Cx}
def rInK (neg : Bool) : V → V → Hp → VK → Prop := fun y x H Q => ∃ a kvs k, x = .ref a ∧ H a = some (.dK kvs) ∧ y = kV k ∧ Q (.bl (if neg then !(valV kvs k).isSome else (valV kvs k).isSome)) H
theorem op_notInK (hu : X.A.units + 9 < cLine) : OpR X (compareOp .NotIn) (rInK true) := by
  intro pins s σ H x y v u Q I rx ry h
  obtain ⟨a, kvs, k, rfl, e, rfl, q⟩ := h
  obtain rfl : u = Value.ref a := ry
  exact d_notIn (by omega) I (DGet.k e) rx fun s' I' => ⟨.bl _, H, I', rfl, q⟩
def sSetK : TSet := fun o i v H Q => ∃ a H4, o = .ref a ∧ DPut H a i v H4 ∧ Q H4
theorem set_K (hu : X.A.units + 9 < cLine) : PSet X sSetK := by
  intro pins s σ H o i v ov iv u Q I ro ri rv h
  obtain ⟨a, H4, rfl, g, q⟩ := h
  obtain rfl : ov = Value.ref a := ro
  exact d_setItem (by omega) I g ri rv fun s' I' => ⟨H4, I', q⟩
end
section
variable {X : Cx} {W : WX} {a b c e i : Expr} {pa pb pc pe : PTE} {pos p : Pos}
def dNewDk : PTE := fun w ρ M q => ∀ a, M a = none → q (.raw (.ref a)) (updM M a (.dik []))
theorem de_newDk : DE X W (.Dict [] [] pos) dNewDk := pe_imp pe_dnewK fun σ H Q ⟨g, ρ, M, F, O, q, w, A, p, hw, k⟩ => fun c hc =>
  k (.ref c) _ F _ _ (.raw (.ref c)) (A.newMo (o := .dK []) (mo := .dik []) hc ⟨[], upd_same, if_pos rfl, rfl, rfl⟩) (Same.refl F) rfl (p c (A.m0 hc))
def dGetDk (pa pb : PTE) : PTE := fun w ρ M q => pa w ρ M fun x M1 => pb w ρ M1 fun y M2 => asDk x M2 fun _ l => ∃ k d, keyD y = some k ∧ getDK l k = some d ∧ q d M2
theorem de_getDk (hu : X.A.units + 9 < cLine) (ha : DE X W a pa) (hb : DE X W i pb) (hs : NoSl i := by exact fun _ _ => rfl) : DE X W (.Subscript a i pos) (dGetDk pa pb) := pe_imp (pe_dget (show X.A.units + 1 < cLine by omega) ha hb hs) fun σ H Q ⟨g, ρ, M, F, O, q, w, A, h, hw, k⟩ =>
  ⟨g, ρ, M, F, O, _, w, A, h, hw, fun v H1 F1 O1 M1 x A1 s1 r1 q1 => ⟨g, ρ, M1, F1, O1, _, w, A1, q1, hw.mono s1, fun u H2 F2 O2 M2 y A2 s2 r2 q2 => by
    obtain ⟨c, l, rfl, hM, kk, d, hk, hd, q3⟩ := asDk_of q2
    obtain ⟨ys, e1, e2, e3, e4⟩ := A2.mu c _ hM
    have hg := getDK_rel (k := kk) e3 e4
    rw [hd] at hg
    obtain ⟨z, hz, rz⟩ := hg
    refine ⟨c, z, r1, ?_, k z H2 F2 O2 M2 d A2 (s1.trans s2) rz q3⟩
    rw [keyD_is hk r2, ← hz]
    exact DGet.k e1⟩⟩
def dInDk (neg : Bool) (pa pb : PTE) : PTE := fun w ρ M q => pa w ρ M fun x M1 => pb w ρ M1 fun y M2 => asDk y M2 fun _ l => ∃ k, keyD x = some k ∧ q (.bl (if neg then !(getDK l k).isSome else (getDK l k).isSome)) M2
theorem inDk_run {neg : Bool} {σ : L2.St} {H : Hp} {Q : VK} (h : real X.K W (dInDk neg pa pb) σ H Q) : tOp (rInK neg) (real X.K W pa) (real X.K W pb) σ H Q := by
  obtain ⟨g, ρ, M, F, O, q, w, A, p, hw, k⟩ := h
  refine ⟨g, ρ, M, F, O, _, w, A, p, hw, fun v H1 F1 O1 M1 d A1 s1 r1 q1 => ⟨g, ρ, M1, F1, O1, _, w, A1, q1, hw.mono s1, fun u H2 F2 O2 M2 y A2 s2 r2 q2 => ?_⟩⟩
  obtain ⟨c, l, rfl, hM, kk, hk, q3⟩ := asDk_of q2
  obtain ⟨ys, e1, e2, e3, e4⟩ := A2.mu c _ hM
  have hg := getDK_rel (k := kk) e3 e4
  have es : (valV ys kk).isSome = (getDK l kk).isSome := by
    cases e : getDK l kk with
    | none => rw [e] at hg; rw [show valV ys kk = none from hg]; rfl
    | some d => rw [e] at hg; obtain ⟨z, hz, _⟩ := hg; rw [hz]; rfl
  refine ⟨c, ys, kk, r2, e1, keyD_is hk (Rp.mono s2 _ _ r1), ?_⟩
  rw [es]
  exact k _ H2 F2 O2 M2 (.bl (if neg then !(getDK l kk).isSome else (getDK l kk).isSome)) A2 (s1.trans s2) rfl q3
theorem dt_notinDk (hu : X.A.units + 9 < cLine) (ha : DE X W a pa) (hb : DE X W b pb) (hm : behindInMarks .NotIn b = false := by rfl) : DT X W (.Compare a [.NotIn] [b] pos) (dTst (dInDk true pa pb)) :=
  pt_imp (pt_cmpR (op_notInK hu) ha hb hm) fun σ H Q h => tst_run (t := tOp (rInK true) (real X.K W pa) (real X.K W pb)) (fun _ _ _ h => inDk_run h) h
def putAt (po pk : PTE) (v : D) (w : PWi) (ρ : Rho) (M : Mm) (q : Mm → Prop) : Prop := po w ρ M fun y M1 => pk w ρ M1 fun x M2 => asDk y M2 fun c l => ∃ k, keyD x = some k ∧ l.length < 1000 ∧ q (updM M2 c (.dik (putDK l k v)))
theorem put_run {K : PySem.W.Frag} {g : Gh} {σ : L2.St} {H : Hp} {ρ : Rho} {M : Mm} {F : Hp} {O : Own} {c : Addr} {l : List (Key × D)} {k : Key} {d : D} {v : V} (A : Ab K g σ H ρ M F O) (hM : M c = some (.dik l)) (rv : Rp K F d v) (hl : l.length < 1000) :
    ∃ H4, DPut H c (kV k) v H4 ∧ Ab K g σ H4 ρ (updM M c (.dik (putDK l k d))) F O := by
  obtain ⟨ys, e1, e2, e3, e4⟩ := A.mu c _ hM
  have hlen : ys.length = l.length := by
    have := congrArg List.length e3
    rw [List.length_map, List.length_map] at this
    exact this
  obtain ⟨i1, i2⟩ := putDK_rel (k := k) rv e3 e4
  exact ⟨_, DPut.k e1 (by rw [hlen]; exact Nat.lt_of_lt_of_le hl (by decide)), A.setMo (o := .dK (putK ys k v)) (mo' := .dik (putDK l k d)) hM e2 ⟨_, upd_same, e2, i1, i2⟩⟩
theorem sub_run {K : PySem.W.Frag} {g : Gh} {σ : L2.St} {H : Hp} {ρ : Rho} {M : Mm} {F : Hp} {O : Own} {w : PWi} {W : WX} {po pk : PTE} {d : D} {v : V} {q : Mm → Prop} {Q : L2.St → Hp → Prop} (A : Ab K g σ H ρ M F O) (hw : WOk K g F W w) (rv : Rp K F d v) (h : putAt po pk d w ρ M q)
    (kk : ∀ H4 F4 O4 M4, Ab K g σ H4 ρ M4 F4 O4 → Same F F4 → q M4 → Q σ H4) : gSub (real K W po) (real K W pk) sSetK v σ H Q := by
  refine ⟨g, ρ, M, F, O, _, w, A, h, hw, fun o H1 F1 O1 M1 y A1 s1 r1 q1 => ⟨g, ρ, M1, F1, O1, _, w, A1, q1, hw.mono s1, fun i H2 F2 O2 M2 x A2 s2 r2 q2 => ?_⟩⟩
  obtain ⟨c, l, rfl, hM, k, hk, hl, q3⟩ := asDk_of q2
  obtain ⟨H4, g4, A4⟩ := put_run (k := k) A2 hM (Rp.mono (s1.trans s2) _ _ rv) hl
  refine ⟨c, H4, r1, ?_, kk H4 F2 O2 _ A4 (s1.trans s2) q3⟩
  rw [keyD_is hk r2]
  exact g4
def dPutDk (pv po pk : PTE) : PTS := fun w P ρ M => pv w ρ M fun v M1 => putAt po pk v w ρ M1 fun M2 => P.nx ρ M2
abbrev AsgIs (X : Cx) (b a : Expr) (pt : Pos) : Prop := ∀ v, assign (.Subscript b a pt) X.env v = (do
      let ov ← holding [v] (eval b X.env)
      let iv ← holding [v, ov] (eval a X.env)
      standAt pt
      holding [v, ov, iv] (setItem ov iv v)
      release [v, ov, iv] [])
theorem ds_putDk {pt : Pos} (hu : X.A.units + 9 < cLine) (he : DE X W e pe) (hb : DE X W b pb) (ha : DE X W a pa) (hs : swapsWithSole [.Subscript b a pt] e pos.line X.env = pure false := by rfl) (hw : swappedStores [.Subscript b a pt] e X.env = pure none := by rfl)
    (hA : AsgIs X b a pt := by intro _; rfl) : DS X W (.Assign [.Subscript b a pt] e pos) (dPutDk pe pb pa) :=
  ps_imp (ps_asg he (pg_sub hb ha (set_K hu) hA) hs hw) fun D σ H ⟨g, ρ, M, F, O, P, w, A, h, hw, k1, k2, k3, k4⟩ =>
    ⟨g, ρ, M, F, O, _, w, A, h, hw, fun v H1 F1 O1 M1 dv A1 s1 r1 q1 => sub_run A1 (hw.mono s1) r1 q1 fun H4 F4 O4 M4 A4 s4 q4 => k1 σ _ ρ _ F4 O4 A4 (s1.trans s4) q4⟩
def dPut2Dk (pv pu po pk qo qk : PTE) : PTS := fun w P ρ M => pv w ρ M fun v M1 => pu w ρ M1 fun u M2 => putAt po pk v w ρ M2 fun M3 => putAt qo qk u w ρ M3 fun M4 => P.nx ρ M4
theorem ds_put2Dk {v1 v2 o1 k1 o2 k2 : Expr} {q1 q2 pt : Pos} {kt kk ptt} {pv pu po pk qo qk : PTE} (hu : X.A.units + 9 < cLine) (hc : X.calm = true) (h1 : DE X W v1 pv) (h2 : DE X W v2 pu) (ho1 : DE X W o1 po) (hk1 : DE X W k1 pk) (ho2 : DE X W o2 qo) (hk2 : DE X W k2 qk)
    (e1 : starEach [v1, v2] X.env = (false, eval v1 X.env) :: starEach [v2] X.env := by rfl) (e2 : starEach [v2] X.env = (false, eval v2 X.env) :: starEach [] X.env := by rfl)
    (hA1 : AsgIs X o1 k1 q1 := by intro _; rfl) (hA2 : AsgIs X o2 k2 q2 := by intro _; rfl)
    (g1 : (assignEach [.Subscript o1 k1 q1, .Subscript o2 k2 q2] X.env).map (·.2) = assign (.Subscript o1 k1 q1) X.env :: (assignEach [.Subscript o2 k2 q2] X.env).map (·.2) := by rfl) (g2 : (assignEach [.Subscript o2 k2 q2] X.env).map (·.2) = assign (.Subscript o2 k2 q2) X.env :: (assignEach [] X.env).map (·.2) := by rfl)
    (hn : (assignEach [.Subscript o1 k1 q1, .Subscript o2 k2 q2] X.env).length = 2 := by rfl) (hst : (assignEach [.Subscript o1 k1 q1, .Subscript o2 k2 q2] X.env).findIdx? (·.1) = none := by rfl)
    (hs : swapsWithSole [.Tuple [.Subscript o1 k1 q1, .Subscript o2 k2 q2] kt pt] (.Tuple [v1, v2] kk ptt) pos.line X.env = pure false := by rfl)
    (hw : swappedStores [.Tuple [.Subscript o1 k1 q1, .Subscript o2 k2 q2] kt pt] (.Tuple [v1, v2] kk ptt) X.env = pure none := by rfl) :
    DS X W (.Assign [.Tuple [.Subscript o1 k1 q1, .Subscript o2 k2 q2] kt pt] (.Tuple [v1, v2] kk ptt) pos) (dPut2Dk pv pu po pk qo qk) :=
  ps_imp (ps_asg (pe_tup (pa_cons h1 (pa_cons h2 pa_nil e2) e1)) (pg_tup hc (pgs_cons (pg_sub ho1 hk1 (set_K hu) hA1) (pgs_cons (pg_sub ho2 hk2 (set_K hu) hA2) pgs_nil g2) g1) hn hst) hs hw)
    fun D σ H ⟨g, ρ, M, F, O, P, w, A, h, hw, kN, _⟩ => by
    refine ⟨g, ρ, M, F, O, _, w, A, h, hw, fun x1 H1 F1 O1 M1 d1 A1 s1 r1 q1 => ⟨g, ρ, M1, F1, O1, _, w, A1, q1, hw.mono s1, fun x2 H2 F2 O2 M2 d2 A2 s2 r2 q2 => ⟨by show 2 ≤ sizeLine; decide, fun p hp => ?_⟩⟩⟩
    have A3 := A2.laid (o := .tup [x1, x2]) hp
    refine ⟨p, [x1, x2], rfl, .inl (.inl upd_same), rfl, x1, [x2], rfl, ?_⟩
    refine sub_run A3 ((hw.mono s1).mono s2) (Rp.mono s2 _ _ r1) q2 fun H4 F4 O4 M4 A4 s4 q4 => ?_
    refine ⟨x2, [], rfl, ?_⟩
    refine sub_run A4 (((hw.mono s1).mono s2).mono s4) (Rp.mono s4 _ _ r2) q4 fun H5 F5 O5 M5 A5 s5 q5 => ?_
    exact ⟨rfl, kN σ _ ρ _ F5 O5 A5 (((s1.trans s2).trans s4).trans s5) q5⟩
def dPut3Dk (pv pu ph po pk qo qk ro rk : PTE) : PTS := fun w P ρ M => pv w ρ M fun v M1 => pu w ρ M1 fun u M2 => ph w ρ M2 fun t M3 => putAt po pk v w ρ M3 fun M4 => putAt qo qk u w ρ M4 fun M5 => putAt ro rk t w ρ M5 fun M6 => P.nx ρ M6
theorem ds_put3Dk {v1 v2 v3 o1 k1 o2 k2 o3 k3 : Expr} {q1 q2 q3 pt : Pos} {kt kk ptt} {pv pu ph po pk qo qk ro rk : PTE} (hu : X.A.units + 9 < cLine) (hc : X.calm = true) (h1 : DE X W v1 pv) (h2 : DE X W v2 pu) (h3 : DE X W v3 ph) (ho1 : DE X W o1 po) (hk1 : DE X W k1 pk) (ho2 : DE X W o2 qo) (hk2 : DE X W k2 qk) (ho3 : DE X W o3 ro) (hk3 : DE X W k3 rk)
    (e1 : starEach [v1, v2, v3] X.env = (false, eval v1 X.env) :: starEach [v2, v3] X.env := by rfl) (e2 : starEach [v2, v3] X.env = (false, eval v2 X.env) :: starEach [v3] X.env := by rfl) (e3 : starEach [v3] X.env = (false, eval v3 X.env) :: starEach [] X.env := by rfl)
    (hA1 : AsgIs X o1 k1 q1 := by intro _; rfl) (hA2 : AsgIs X o2 k2 q2 := by intro _; rfl) (hA3 : AsgIs X o3 k3 q3 := by intro _; rfl)
    (g1 : (assignEach [.Subscript o1 k1 q1, .Subscript o2 k2 q2, .Subscript o3 k3 q3] X.env).map (·.2) = assign (.Subscript o1 k1 q1) X.env :: (assignEach [.Subscript o2 k2 q2, .Subscript o3 k3 q3] X.env).map (·.2) := by rfl) (g2 : (assignEach [.Subscript o2 k2 q2, .Subscript o3 k3 q3] X.env).map (·.2) = assign (.Subscript o2 k2 q2) X.env :: (assignEach [.Subscript o3 k3 q3] X.env).map (·.2) := by rfl)
    (g3 : (assignEach [.Subscript o3 k3 q3] X.env).map (·.2) = assign (.Subscript o3 k3 q3) X.env :: (assignEach [] X.env).map (·.2) := by rfl)
    (hn : (assignEach [.Subscript o1 k1 q1, .Subscript o2 k2 q2, .Subscript o3 k3 q3] X.env).length = 3 := by rfl) (hst : (assignEach [.Subscript o1 k1 q1, .Subscript o2 k2 q2, .Subscript o3 k3 q3] X.env).findIdx? (·.1) = none := by rfl)
    (hs : swapsWithSole [.Tuple [.Subscript o1 k1 q1, .Subscript o2 k2 q2, .Subscript o3 k3 q3] kt pt] (.Tuple [v1, v2, v3] kk ptt) pos.line X.env = pure false := by rfl)
    (hw : swappedStores [.Tuple [.Subscript o1 k1 q1, .Subscript o2 k2 q2, .Subscript o3 k3 q3] kt pt] (.Tuple [v1, v2, v3] kk ptt) X.env = pure none := by rfl) :
    DS X W (.Assign [.Tuple [.Subscript o1 k1 q1, .Subscript o2 k2 q2, .Subscript o3 k3 q3] kt pt] (.Tuple [v1, v2, v3] kk ptt) pos) (dPut3Dk pv pu ph po pk qo qk ro rk) :=
  ps_imp (ps_asg (pe_tup (pa_cons h1 (pa_cons h2 (pa_cons h3 pa_nil e3) e2) e1)) (pg_tup hc (pgs_cons (pg_sub ho1 hk1 (set_K hu) hA1) (pgs_cons (pg_sub ho2 hk2 (set_K hu) hA2) (pgs_cons (pg_sub ho3 hk3 (set_K hu) hA3) pgs_nil g3) g2) g1) hn hst) hs hw)
    fun D σ H ⟨g, ρ, M, F, O, P, w, A, h, hw, kN, _⟩ => by
    refine ⟨g, ρ, M, F, O, _, w, A, h, hw, fun x1 H1 F1 O1 M1 d1 A1 s1 r1 q1 => ⟨g, ρ, M1, F1, O1, _, w, A1, q1, hw.mono s1, fun x2 H2 F2 O2 M2 d2 A2 s2 r2 q2 => ⟨g, ρ, M2, F2, O2, _, w, A2, q2, (hw.mono s1).mono s2, fun x3 H3 F3 O3 M3 d3 A3 s3 r3 q3 => ⟨by show 3 ≤ sizeLine; decide, fun p hp => ?_⟩⟩⟩⟩
    have A4 := A3.laid (o := .tup [x1, x2, x3]) hp
    have hw3 := ((hw.mono s1).mono s2).mono s3
    refine ⟨p, [x1, x2, x3], rfl, .inl (.inl upd_same), rfl, x1, [x2, x3], rfl, ?_⟩
    refine sub_run A4 hw3 (Rp.mono (s2.trans s3) _ _ r1) q3 fun H5 F5 O5 M5 A5 s5 q5 => ?_
    refine ⟨x2, [x3], rfl, ?_⟩
    refine sub_run A5 (hw3.mono s5) (Rp.mono (s3.trans s5) _ _ r2) q5 fun H6 F6 O6 M6 A6 s6 q6 => ?_
    refine ⟨x3, [], rfl, ?_⟩
    refine sub_run A6 ((hw3.mono s5).mono s6) (Rp.mono (s5.trans s6) _ _ r3) q6 fun H7 F7 O7 M7 A7 s7 q7 => ?_
    exact ⟨rfl, kN σ _ ρ _ F7 O7 A7 (((((s1.trans s2).trans s3).trans s5).trans s6).trans s7) q7⟩
end
end Px
set_option Elab.async false
set_option linter.all false
set_option maxRecDepth 100000
namespace Px
open PySem PySem.Spec PyProof.Rows L2
def bndP (p r : Int × Int) : Str :=
  if (p.2 - r.2) % (2 * g0 p.1 r.1) = 0 then (if (p.2 + r.2) % (2 * g0 p.1 r.1) = 0 then "free" else "alike") else (if (p.2 + r.2) % (2 * g0 p.1 r.1) = 0 then "unlike" else "clash")
def okL (p : Int × Int) : Prop := (1 ≤ p.1 ∧ p.1 ≤ 1000) ∧ 0 ≤ p.2 ∧ p.2 ≤ p.1
def sp_bond (C : Cl) : PSp := fun ds M q _ => ar2 ds fun x y => ∃ p r, x = lkD p ∧ y = lkD r ∧ okL p ∧ okL r ∧ q (.str (bndP p r)) M
def rd_bond (C : Cl) : PTS := (dSeq (dSet 2 (dOp fMul (dC (.int 2)) (dCall (sp_divisor C) [] (dCons (dOp fIx (dVar 0) (dC (.int 0))) (dCons (dOp fIx (dVar 1) (dC (.int 0))) dNil)))))
    (dSeq (dPar 3 4 (dCons (dOp fEq (dOp fMod (dOp fSub (dOp fIx (dVar 0) (dC (.int 1))) (dOp fIx (dVar 1) (dC (.int 1)))) (dVar 2)) (dC (.int 0))) (dCons (dOp fEq (dOp fMod (dOp fAdd (dOp fIx (dVar 0) (dC (.int 1))) (dOp fIx (dVar 1) (dC (.int 1)))) (dVar 2)) (dC (.int 0))) dNil)))
    (dSeq (dIfS (dTst (dVar 3)) (dRet (dIf (dTst (dVar 4)) (dC (.str "free")) (dC (.str "alike")))) dNext)
    (dRet (dIf (dTst (dVar 4)) (dC (.str "unlike")) (dC (.str "clash")))))))
theorem sh_bond (C : Cl) : Shows (sp_bond C) 5 (rd_bond C) := by
  intro ds M q e h
  obtain ⟨x, y, rfl, p, r, rfl, rfl, hp, hr, hq⟩ := ar2_of h
  obtain ⟨⟨p1, p2⟩, p3, p4⟩ := hp
  obtain ⟨⟨r1, r2⟩, r3, r4⟩ := hr
  have gp := g0_pos (x := p.1) (show 0 < r.1 by omega)
  have gl := g0_le (x := p.1) (show 0 < r.1 by omega)
  have e2 : Ev (dOp fMul (dC (.int 2)) (dCall (sp_divisor C) [] (dCons (dOp fIx (dVar 0) (dC (.int 0))) (dCons (dOp fIx (dVar 1) (dC (.int 0))) dNil)))) (fun cls fs x M' => ∃ M2, MLe M2 M' ∧ e cls fs M2) (startR 5 [lkD p, lkD r]) M (.int (2 * g0 p.1 r.1)) :=
    ev_op ev_c (ev_call (eva_cons (ev_op (ev_var rfl) ev_c (o2_ixT atI_01.1)) (eva_cons (ev_op (ev_var rfl) ev_c (o2_ixT atI_01.1)) eva_nil)) fun q e hq => ⟨by omega, by omega, hq⟩) (o2_mul (mul_small (by decide) (by decide) (by omega) (by omega)))
  refine sqSet e2 ?_
  have ed : ∀ {ρ : Rho} {i : Nat} {p : Int × Int}, gt ρ i = some (.val (lkD p)) → Ev (dOp fIx (dVar i) (dC (.int 1))) (fun cls fs x M' => ∃ M2, MLe M2 M' ∧ e cls fs M2) ρ M (.int p.2) := fun h => ev_op (ev_var h) ev_c (o2_ixT atI_01.2)
  have ha : EvA (dCons (dOp fEq (dOp fMod (dOp fSub (dOp fIx (dVar 0) (dC (.int 1))) (dOp fIx (dVar 1) (dC (.int 1)))) (dVar 2)) (dC (.int 0))) (dCons (dOp fEq (dOp fMod (dOp fAdd (dOp fIx (dVar 0) (dC (.int 1))) (dOp fIx (dVar 1) (dC (.int 1)))) (dVar 2)) (dC (.int 0))) dNil)) (fun cls fs x M' => ∃ M2, MLe M2 M' ∧ e cls fs M2) [some (.val (lkD p)), some (.val (lkD r)), some (.val (.int (2 * g0 p.1 r.1))), none, none] M
      [.bl (decide ((p.2 - r.2) % (2 * g0 p.1 r.1) = 0)), .bl (decide ((p.2 + r.2) % (2 * g0 p.1 r.1) = 0))] :=
    eva_cons (ev_op (ev_op (ev_op (ed rfl) (ed rfl) o2_sub) (ev_var rfl) (o2_mod (by omega))) ev_c o2_eqI) (eva_cons (ev_op (ev_op (ev_op (ed rfl) (ed rfl) o2_add) (ev_var rfl) (o2_mod (by omega))) ev_c o2_eqI) eva_nil)
  refine sqPar ha ?_
  unfold bndP at hq
  have hv : ∀ {i : Nat} {b : Bool} {ρ : Rho}, gt ρ i = some (.val (.bl b)) → EvT (dTst (dVar i)) (fun cls fs x M' => ∃ M2, MLe M2 M' ∧ e cls fs M2) ρ M b := fun h => evt (ev_var h)
  by_cases c1 : (p.2 - r.2) % (2 * g0 p.1 r.1) = 0
  · rw [if_pos c1] at hq
    rw [decide_eq_true c1]
    refine sqIfTR (hv rfl) (d := .str (if (p.2 + r.2) % (2 * g0 p.1 r.1) = 0 then "free" else "alike")) (ev_ife (hv rfl) (fun c => ?_) (fun c => ?_)) ⟨M, MLe.refl M, hq⟩
    · rw [if_pos (of_decide_eq_true c)]; exact ev_c
    · rw [if_neg (of_decide_eq_false c)]; exact ev_c
  · rw [if_neg c1] at hq
    rw [decide_eq_false c1]
    refine sqIfFN (hv rfl) ?_
    refine ret_ev (d := .str (if (p.2 + r.2) % (2 * g0 p.1 r.1) = 0 then "unlike" else "clash")) (ev_ife (hv rfl) (fun c => ?_) (fun c => ?_)) ⟨M, MLe.refl M, hq⟩
    · rw [if_pos (of_decide_eq_true c)]; exact ev_c
    · rw [if_neg (of_decide_eq_false c)]; exact ev_c
def bnd (ls : List (Int × Int)) (i j : Nat) : Str := if alk ls i j = true then (if unl ls i j = true then "free" else "alike") else (if unl ls i j = true then "unlike" else "clash")
theorem bnd_is {ls : List (Int × Int)} {i j : Nat} (hi : i < ls.length) (hj : j < ls.length) : bndP ls[i] ls[j] = bnd ls i j := by
  unfold bndP bnd alk unl stL
  rw [(hL_at hi).1, (hL_at hj).1, (hL_at hi).2, (hL_at hj).2]
  simp only [decide_eq_true_eq]
theorem LkOk.okL {ls : List (Int × Int)} (h : LkOk ls) {i : Nat} (hi : i < ls.length) : okL ls[i] := h.2.2 _ (List.getElem_mem hi)
theorem LkOk.lk {ls : List (Int × Int)} (h : LkOk ls) : Lk ls := ⟨List.length_pos_iff.mpr h.1, fun i hi => by
  have := h.okL hi
  rw [(hL_at hi).1, (hL_at hi).2]
  exact ⟨this.1.1, this.2⟩⟩
theorem jn_bnd (ls : List (Int × Int)) (i j : Nat) : inV (.str (bnd ls i j)) [V.str "alike", V.str "unlike"] = jn ls i j ∧ eqD (.str (bnd ls i j)) (.str "alike") = (alk ls i j && !unl ls i j) ∧ eqD (.str (bnd ls i j)) (.str "clash") = clh ls i j ∧ okD 50 (.str (bnd ls i j)) = true := by
  unfold bnd jn clh
  cases alk ls i j <;> cases unl ls i j <;> decide +kernel
section
variable {C : Cl} {w : PWi} {P : PEnds} {ρ : Rho} {M : Mm} {pa pb po pk pv : PTE} {ls : List (Int × Int)} {d v : D} {i j : Nat}
theorem ev_bond (h : LkOk ls) (hi : i < ls.length) (hj : j < ls.length) (ha : Ev pa w ρ M (lkD ls[i])) (hb : Ev pb w ρ M (lkD ls[j])) : Ev (dCall (sp_bond C) [] (dCons pa (dCons pb dNil))) w ρ M (.str (bnd ls i j)) :=
  ev_call (eva_cons ha (eva_cons hb eva_nil)) fun q e hq => ⟨_, _, rfl, rfl, h.okL hi, h.okL hj, by rw [bnd_is hi hj]; exact hq⟩
theorem ev_at (hd : isLks d ls) (hi : i < ls.length) (ha : Ev pa w ρ M d) (hb : Ev pb w ρ M (.int (i : Int))) : Ev (dOp fIx pa pb) w ρ M (lkD ls[i]) := by
  have e : atI (ls.map lkD) (i : Int) = some (lkD ls[i]) := by
    rw [atI_nat (j := i) (by rw [List.getElem?_map, List.getElem?_eq_getElem hi]; rfl)]
  rcases hd with rfl | rfl
  · exact ev_op ha hb (o2_ixL e)
  · exact ev_op ha hb (o2_ixT e)
theorem o1_lenK (hd : isLks d ls) : Op1 fLen d (.int (ls.length : Nat)) := by
  rcases hd with rfl | rfl
  · have := o1_lenL (l := ls.map lkD); rw [List.length_map] at this; exact this
  · have := o1_lenT (l := ls.map lkD); rw [List.length_map] at this; exact this
theorem forN_ev {gd : PTG} {p : PTS} {n : Nat} (ha : Ev pa w ρ M (.int (n : Nat))) (hn : n ≤ 1000000) (k : forR gd p w (rngD 0 n) P ρ M) : dFor (iR1 pa) gd p w P ρ M := ha _ ⟨by omega, by omega, by rw [show ((n : Int)).toNat = n by omega]; exact k⟩
def prsOf (n : Nat) : List (Nat × Nat) := (List.range n).flatMap fun a => (List.range a).map fun b => (b, a)
def clsF (ls : List (Int × Int)) : Option (Nat × Nat) := (prsOf ls.length).find? fun p => clh ls p.1 p.2
def clsD (ls : List (Int × Int)) : D := match clsF ls with
  | some p => .lst [.int (p.1 : Nat), .int (p.2 : Nat)]
  | none => .non
theorem prsOf_succ (n : Nat) : prsOf (n + 1) = prsOf n ++ (List.range n).map fun b => (b, n) := by
  unfold prsOf
  rw [List.range_succ, List.flatMap_append]
  simp
theorem prsOf_app {n m : Nat} (h : n ≤ m) : ∃ r, prsOf m = prsOf n ++ r := by
  induction m with
  | zero => exact ⟨[], by rw [show n = 0 by omega]; simp⟩
  | succ m ih =>
    by_cases z : n = m + 1
    · exact ⟨[], by rw [z]; simp⟩
    · obtain ⟨r, e⟩ := ih (by omega)
      exact ⟨r ++ (List.range m).map fun b => (b, m), by rw [prsOf_succ, e, List.append_assoc]⟩
theorem prs_find {n a b : Nat} (ha : a < n) (hb : b < a) {f : Nat × Nat → Bool} (h0 : (prsOf a).find? f = none) (h1 : ((List.range b).map fun b => (b, a)).find? f = none) (h2 : f (b, a) = true) : (prsOf n).find? f = some (b, a) := by
  obtain ⟨r, e⟩ := prsOf_app (show a + 1 ≤ n by omega)
  obtain ⟨s, es⟩ : ∃ s, List.range a = List.range b ++ b :: s := by
    have e1 : a = b + 1 + (a - (b + 1)) := by omega
    rw [e1, List.range_add, List.range_succ, List.append_assoc]
    exact ⟨_, rfl⟩
  rw [e, prsOf_succ, es, List.map_append, List.map_cons, List.find?_append, List.find?_append, List.find?_append, h0, h1, List.find?_cons, h2]
  rfl
end
end Px
set_option Elab.async false
set_option linter.all false
set_option maxRecDepth 100000
namespace Px
open PySem PySem.Spec PyProof.Rows L2
def DkF (kvs : List (Key × D)) (L : List Nat) (f : Nat → D) : Prop := kvs.length ≤ L.length ∧ ∀ i : Nat, getDK kvs (.inl (i : Int)) = if i ∈ L then some (f i) else none
theorem DkF.put {kvs : List (Key × D)} {L : List Nat} {f g : Nat → D} {i : Nat} {d : D} (h : DkF kvs L f) (hi : i ∉ L) (h1 : g i = d) (h2 : ∀ k, k ≠ i → g k = f k) : DkF (putDK kvs (.inl (i : Int)) d) (L ++ [i]) g := by
  refine ⟨Nat.le_trans (putDK_len _ _ _) (by rw [List.length_append, List.length_singleton]; have := h.1; omega), fun k => ?_⟩
  rw [getDK_put]
  by_cases z : k = i
  · subst z
    rw [if_pos rfl, if_pos (List.mem_append.mpr (.inr List.mem_cons_self)), h1]
  · rw [if_neg (fun e => z (by injection e with e; omega)), h.2 k, h2 k z]
    by_cases q : k ∈ L
    · rw [if_pos q, if_pos (List.mem_append.mpr (.inl q))]
    · rw [if_neg q, if_neg (fun m => by
        rcases List.mem_append.mp m with m | m
        · exact q m
        · exact z (List.mem_singleton.mp m))]
def fA : Option Nat → D
  | none => .non
  | some j => .int (j : Nat)
structure NS (M : Mm) (b1 b2 b3 : Addr) (t : Nt) : Prop where
  n12 : b1 ≠ b2
  n13 : b1 ≠ b3
  n23 : b2 ≠ b3
  s : ∃ k, M b1 = some (.dik k) ∧ DkF k t.L fun i => .int (t.S i)
  h : ∃ k, M b2 = some (.dik k) ∧ DkF k t.L fun i => .int (t.Hd i : Nat)
  a : ∃ k, M b3 = some (.dik k) ∧ DkF k t.L fun i => fA (t.A i)
def Fr (M M' : Mm) (b1 b2 b3 : Addr) : Prop := ∀ b, b ≠ b1 → b ≠ b2 → b ≠ b3 → M' b = M b
theorem Fr.refl (M : Mm) (b1 b2 b3 : Addr) : Fr M M b1 b2 b3 := fun _ _ _ _ => rfl
theorem Fr.trans {M M' M'' : Mm} {b1 b2 b3 : Addr} (h : Fr M M' b1 b2 b3) (k : Fr M' M'' b1 b2 b3) : Fr M M'' b1 b2 b3 := fun b x y z => (k b x y z).trans (h b x y z)
theorem updM_nb {M : Mm} {c b : Addr} {m : Mo} (h : b ≠ c) : updM M c m b = M b := by unfold updM; rw [if_neg h]
abbrev netFs (d : D) (b1 b2 b3 : Addr) : List (Str × D) := [("n_looks", d), ("n_signs", .raw (.ref b1)), ("n_heads", .raw (.ref b2)), ("n_ahead", .raw (.ref b3))]
section
variable {C : Cl} {w : PWi} {P : PEnds} {ρ : Rho} {M : Mm} {pa pb po pk pv : PTE} {ls : List (Int × Int)} {d v x : D} {i j : Nat} {a c b1 b2 b3 : Addr} {t : Nt} {fs : List (Str × D)} {f : Str} {kvs : List (Key × D)}
theorem ev_fldI {K : Addr} (ha : Ev pa w ρ M (.raw (.ref a))) (hM : M a = some (.ins K fs)) (hl : fs.lookup f = some v) : Ev (dFld K f pa) w ρ M v := fun q hq => ha _ ⟨fs, v, hM, hl, hq⟩
theorem ev_getDk {n : Int} (ha : Ev pa w ρ M (.raw (.ref c))) (hb : Ev pb w ρ M (.int n)) (hM : M c = some (.dik kvs)) (h : getDK kvs (.inl n) = some v) : Ev (dGetDk pa pb) w ρ M v := fun q hq => ha _ (hb _ (asDk_in hM ⟨_, v, rfl, h, hq⟩))
theorem ev_inDk {n : Int} {neg : Bool} (ha : Ev pa w ρ M (.int n)) (hb : Ev pb w ρ M (.raw (.ref c))) (hM : M c = some (.dik kvs)) : Ev (dInDk neg pa pb) w ρ M (.bl (if neg then !(getDK kvs (.inl n)).isSome else (getDK kvs (.inl n)).isSome)) := fun q hq => ha _ (hb _ (asDk_in hM ⟨_, rfl, hq⟩))
theorem putAt_ev {n : Int} {q : Mm → Prop} (ho : Ev po w ρ M (.raw (.ref c))) (hk : Ev pk w ρ M (.int n)) (hM : M c = some (.dik kvs)) (hl : kvs.length < 1000) (k : q (updM M c (.dik (putDK kvs (.inl n) v)))) : putAt po pk v w ρ M q := ho _ (hk _ (asDk_in hM ⟨_, rfl, hl, k⟩))
theorem put3_ev {v1 v2 v3 : D} {p1 p2 p3 o1 k1 o2 k2 o3 k3 : PTE} (h1 : Ev p1 w ρ M v1) (h2 : Ev p2 w ρ M v2) (h3 : Ev p3 w ρ M v3) (k : putAt o1 k1 v1 w ρ M fun M4 => putAt o2 k2 v2 w ρ M4 fun M5 => putAt o3 k3 v3 w ρ M5 fun M6 => P.nx ρ M6) : dPut3Dk p1 p2 p3 o1 k1 o2 k2 o3 k3 w P ρ M := h1 _ (h2 _ (h3 _ k))
theorem NS.notin (N : NS M b1 b2 b3 t) (ha : Ev pa w ρ M (.int (i : Int))) (hb : Ev pb w ρ M (.raw (.ref b1))) : Ev (dInDk true pa pb) w ρ M (.bl (decide (i ∉ t.L))) := by
  obtain ⟨k, hM, hk⟩ := N.s
  have := ev_inDk (neg := true) ha hb hM
  rw [if_pos rfl, hk.2 i] at this
  by_cases z : i ∈ t.L
  · rw [if_pos z] at this
    rw [decide_eq_false (fun y => y z)]
    exact this
  · rw [if_neg z] at this
    rw [decide_eq_true z]
    exact this
theorem NS.sign (N : NS M b1 b2 b3 t) (hi : i ∈ t.L) (ha : Ev pa w ρ M (.raw (.ref b1))) (hb : Ev pb w ρ M (.int (i : Int))) : Ev (dGetDk pa pb) w ρ M (.int (t.S i)) := by
  obtain ⟨k, hM, hk⟩ := N.s
  exact ev_getDk ha hb hM (by rw [hk.2 i, if_pos hi])
theorem NS.head (N : NS M b1 b2 b3 t) (hi : i ∈ t.L) (ha : Ev pa w ρ M (.raw (.ref b2))) (hb : Ev pb w ρ M (.int (i : Int))) : Ev (dGetDk pa pb) w ρ M (.int (t.Hd i : Nat)) := by
  obtain ⟨k, hM, hk⟩ := N.h
  exact ev_getDk ha hb hM (by rw [hk.2 i, if_pos hi])
theorem NS.ahead (N : NS M b1 b2 b3 t) (hi : i ∈ t.L) (ha : Ev pa w ρ M (.raw (.ref b3))) (hb : Ev pb w ρ M (.int (i : Int))) : Ev (dGetDk pa pb) w ρ M (fA (t.A i)) := by
  obtain ⟨k, hM, hk⟩ := N.a
  exact ev_getDk ha hb hM (by rw [hk.2 i, if_pos hi])
theorem NS.add (N : NS M b1 b2 b3 t) (hi : i ∉ t.L) {s : Int} {h : Nat} {u : Option Nat} {k1 k2 k3 : List (Key × D)} (e1 : M b1 = some (.dik k1)) (e2 : M b2 = some (.dik k2)) (e3 : M b3 = some (.dik k3)) :
    NS (updM (updM (updM M b1 (.dik (putDK k1 (.inl (i : Int)) (.int s)))) b2 (.dik (putDK k2 (.inl (i : Int)) (.int (h : Nat))))) b3 (.dik (putDK k3 (.inl (i : Int)) (fA u)))) b1 b2 b3 (t.add i s h u) ∧
    Fr M (updM (updM (updM M b1 (.dik (putDK k1 (.inl (i : Int)) (.int s)))) b2 (.dik (putDK k2 (.inl (i : Int)) (.int (h : Nat))))) b3 (.dik (putDK k3 (.inl (i : Int)) (fA u)))) b1 b2 b3 := by
  obtain ⟨y1, f1, g1⟩ := N.s
  obtain ⟨y2, f2, g2⟩ := N.h
  obtain ⟨y3, f3, g3⟩ := N.a
  rw [e1] at f1
  rw [e2] at f2
  rw [e3] at f3
  cases f1
  cases f2
  cases f3
  refine ⟨⟨N.n12, N.n13, N.n23, ⟨_, by rw [updM_nb N.n13, updM_nb N.n12, updM_same], ?_⟩, ⟨_, by rw [updM_nb N.n23, updM_same], ?_⟩, ⟨_, updM_same, ?_⟩⟩, fun b z1 z2 z3 => by rw [updM_nb z3, updM_nb z2, updM_nb z1]⟩
  · exact g1.put hi (by show D.int ((t.add i s h u).S i) = _; rw [add_eq.1]) fun k hk => by show D.int ((t.add i s h u).S k) = _; rw [(add_ne hk).1]
  · exact g2.put hi (by show D.int (((t.add i s h u).Hd i : Nat) : Int) = _; rw [add_eq.2.1]) fun k hk => by show D.int (((t.add i s h u).Hd k : Nat) : Int) = _; rw [(add_ne hk).2.1]
  · exact g3.put hi (by show fA ((t.add i s h u).A i) = _; rw [add_eq.2.2]) fun k hk => by show fA ((t.add i s h u).A k) = _; rw [(add_ne hk).2.2]
theorem NS.small (N : NS M b1 b2 b3 t) (hl : t.L.length < 1000) : ∃ k1 k2 k3, M b1 = some (.dik k1) ∧ M b2 = some (.dik k2) ∧ M b3 = some (.dik k3) ∧ k1.length < 1000 ∧ k2.length < 1000 ∧ k3.length < 1000 := by
  obtain ⟨y1, f1, g1⟩ := N.s
  obtain ⟨y2, f2, g2⟩ := N.h
  obtain ⟨y3, f3, g3⟩ := N.a
  exact ⟨y1, y2, y3, f1, f2, f3, Nat.lt_of_le_of_lt g1.1 hl, Nat.lt_of_le_of_lt g2.1 hl, Nat.lt_of_le_of_lt g3.1 hl⟩
end
def sp_Net_go_through (C : Cl) : PSp := fun ds M q _ => ar2 ds fun s x => ∃ (a b1 b2 b3 : Addr) (ls : List (Int × Int)) (d : D) (t : Nt) (i : Nat), s = .raw (.ref a) ∧ x = .int (i : Int) ∧ M a = some (.ins C.Net (netFs d b1 b2 b3)) ∧ LkOk ls ∧ isLks d ls ∧ NS M b1 b2 b3 t ∧ (PT ls t ∧ Clo ls t ∧ i ∉ t.L ∧ i < ls.length) ∧
  ∀ M', NS M' b1 b2 b3 (goAll ls i t) → Fr M M' b1 b2 b3 → q .non M'
def rd_Net_go_through (C : Cl) : PTS := (dSeq (dPut3Dk (dC (.int 1)) (dVar 1) (dC .non) (dFld C.Net "n_signs" (dVar 0)) (dVar 1) (dFld C.Net "n_heads" (dVar 0)) (dVar 1) (dFld C.Net "n_ahead" (dVar 0)) (dVar 1))
    (dSeq (dParF2L 2 3 (dLst (dCons (dVar 1) dNil)) (dC (.int 0)))
    (dWhile (dTst (dOp fLt (dVar 3) (dB1 fLen (dOwn 2)))) (dSeq (dFor (iR1 (dB1 fLen (dFld C.Net "n_looks" (dVar 0)))) (gNm 4) (dSeq (dSet 5 (dCall (sp_bond C) [] (dCons (dOp fIx (dFld C.Net "n_looks" (dVar 0)) (dOp fIx (dOwn 2) (dVar 3))) (dCons (dOp fIx (dFld C.Net "n_looks" (dVar 0)) (dVar 4)) dNil))))
    (dIfS (dAnd (dTst (dOp (fInF false) (dVar 5) (dTup (dCons (dC (.str "alike")) (dCons (dC (.str "unlike")) dNil))))) (dTst (dInDk true (dVar 4) (dFld C.Net "n_signs" (dVar 0))))) (dSeq (dPutDk (dOp fMul (dGetDk (dFld C.Net "n_signs" (dVar 0)) (dOp fIx (dOwn 2) (dVar 3))) (dIf (dTst (dOp fEq (dVar 5) (dC (.str "alike")))) (dC (.int 1)) (dNeg (dC (.int 1))))) (dFld C.Net "n_signs" (dVar 0)) (dVar 4))
    (dSeq (dPut2Dk (dVar 1) (dOp fIx (dOwn 2) (dVar 3)) (dFld C.Net "n_heads" (dVar 0)) (dVar 4) (dFld C.Net "n_ahead" (dVar 0)) (dVar 4))
    (dApp 2 (dVar 4)))) dNext)))
    (dAug 3 (dC (.int 1)))))))
def goTail (C : Cl) : PTS := (dIfS (dAnd (dTst (dOp (fInF false) (dVar 5) (dTup (dCons (dC (.str "alike")) (dCons (dC (.str "unlike")) dNil))))) (dTst (dInDk true (dVar 4) (dFld C.Net "n_signs" (dVar 0))))) (dSeq (dPutDk (dOp fMul (dGetDk (dFld C.Net "n_signs" (dVar 0)) (dOp fIx (dOwn 2) (dVar 3))) (dIf (dTst (dOp fEq (dVar 5) (dC (.str "alike")))) (dC (.int 1)) (dNeg (dC (.int 1))))) (dFld C.Net "n_signs" (dVar 0)) (dVar 4))
    (dSeq (dPut2Dk (dVar 1) (dOp fIx (dOwn 2) (dVar 3)) (dFld C.Net "n_heads" (dVar 0)) (dVar 4) (dFld C.Net "n_ahead" (dVar 0)) (dVar 4))
    (dApp 2 (dVar 4)))) dNext)
abbrev ρg (a : Addr) (first : Nat) (line : List Nat) (k : Nat) (x4 x5 : Option Sv) : Rho := [some (.val (.raw (.ref a))), some (.val (.int (first : Int))), some (.own (line.map fun i : Nat => D.int (i : Int))), some (.val (.int (k : Int))), x4, x5]
section
variable {C : Cl} {w : PWi} {P : PEnds} {M : Mm} {ls : List (Int × Int)} {d : D} {first cur k o : Nat} {a b1 b2 b3 : Addr} {t0 : Nt} {p : Nt × List Nat} {x5 : Option Sv}
theorem atN {l : List Nat} {k i : Nat} (h : l[k]? = some i) : atI (l.map fun i : Nat => D.int (i : Int)) (k : Int) = some (.int (i : Int)) := atI_nat (by rw [List.getElem?_map, h]; rfl)
theorem Fr.ins {M M' : Mm} {K : Addr} {fs : List (Str × D)} {t : Nt} (F : Fr M M' b1 b2 b3) (N : NS M b1 b2 b3 t) (h : M a = some (.ins K fs)) : M' a = some (.ins K fs) := by
  obtain ⟨y1, f1, _⟩ := N.s
  obtain ⟨y2, f2, _⟩ := N.h
  obtain ⟨y3, f3, _⟩ := N.a
  rw [F a (fun z => by rw [z, f1] at h; cases h) (fun z => by rw [z, f2] at h; cases h) (fun z => by rw [z, f3] at h; cases h)]
  exact h
theorem goTail_ok (hl : LkOk ls) (hd : isLks d ls) (ha : M a = some (.ins C.Net (netFs d b1 b2 b3))) (N : NS M b1 b2 b3 p.1) (G : GI ls first t0 p) (hk : p.2[k]? = some cur) (ho : o < ls.length)
    (hN : ∀ M', NS M' b1 b2 b3 (visit ls first cur p o).1 → Fr M M' b1 b2 b3 → P.nx (ρg a first (visit ls first cur p o).2 k (some (.val (.int (o : Int)))) (some (.val (.str (bnd ls cur o))))) M') :
    goTail C w P (ρg a first p.2 k (some (.val (.int (o : Int)))) (some (.val (.str (bnd ls cur o))))) M := by
  have hc : cur ∈ p.2 := List.mem_of_getElem? hk
  have hcL : cur ∈ p.1.L := by rw [G.L]; exact List.mem_append.mpr (.inr hc)
  have h6 := hl.2.1
  have hlen := G.len
  have hlen2 : p.2.length ≤ p.1.L.length := by rw [G.L, List.length_append]; omega
  obtain ⟨j1, j2, j3, j4⟩ := jn_bnd ls cur o
  have t1 : EvT (dTst (dOp (fInF false) (dVar 5) (dTup (dCons (dC (.str "alike")) (dCons (dC (.str "unlike")) dNil))))) w (ρg a first p.2 k (some (.val (.int (o : Int)))) (some (.val (.str (bnd ls cur o))))) M (jn ls cur o) :=
    evt (ev_op (ev_var rfl) (ev_tup (eva_cons ev_c (eva_cons ev_c eva_nil)) (by show 2 ≤ 1000000; decide)) (fun κ hκ => by
      show κ (.bl (if false = true then !inV (.str (bnd ls cur o)) [V.str "alike", V.str "unlike"] else inV (.str (bnd ls cur o)) [V.str "alike", V.str "unlike"]))
      rw [if_neg (by decide), j1]
      exact hκ))
  have t2 : EvT (dTst (dInDk true (dVar 4) (dFld C.Net "n_signs" (dVar 0)))) w (ρg a first p.2 k (some (.val (.int (o : Int)))) (some (.val (.str (bnd ls cur o))))) M (decide (o ∉ p.1.L)) := evt (N.notin (ev_var rfl) (ev_fldI (ev_var rfl) ha rfl))
  refine if_ev (evt_and t1 (fun _ => t2) (x := decide (jn ls cur o = true ∧ o ∉ p.1.L)) (by
    by_cases z : jn ls cur o = true
    · rw [z]; simp
    · rw [show jn ls cur o = false by simpa using z]; simp)) (fun c => ?_) (fun c => ?_)
  · have c := of_decide_eq_true c
    unfold visit at hN
    rw [if_pos c] at hN
    obtain ⟨k1, k2, k3, e1, e2, e3, s1, s2, s3⟩ := N.small (by omega)
    obtain ⟨N', F'⟩ := N.add c.2 (s := p.1.S cur * sgn ls cur o) (h := first) (u := some cur) e1 e2 e3
    have hx : Ev (dOp fMul (dGetDk (dFld C.Net "n_signs" (dVar 0)) (dOp fIx (dOwn 2) (dVar 3))) (dIf (dTst (dOp fEq (dVar 5) (dC (.str "alike")))) (dC (.int 1)) (dNeg (dC (.int 1))))) w (ρg a first p.2 k (some (.val (.int (o : Int)))) (some (.val (.str (bnd ls cur o))))) M (.int (p.1.S cur * sgn ls cur o)) := by
      have e : eqD (.str (bnd ls cur o)) (.str "alike") = alk ls cur o := by
        rw [j2]
        have := c.1
        unfold jn at this
        revert this
        cases alk ls cur o <;> cases unl ls cur o <;> decide
      have te := evt (ev_op (ev_var (w := w) (M := M) (ρ := ρg a first p.2 k (some (.val (.int (o : Int)))) (some (.val (.str (bnd ls cur o))))) (i := 5) rfl) (ev_c (d := .str "alike")) (o2_eq j4 (by decide +kernel)))
      rw [e] at te
      have hS : p.1.S cur = 1 ∨ p.1.S cur = -1 := by
        have : ∀ n i, i ∈ p.1.L → p.1.L.idxOf i ≤ n → p.1.S i = 1 ∨ p.1.S i = -1 := by
          intro n
          induction n with
          | zero =>
            intro i hi hn
            cases eA : p.1.A i with
            | none => exact .inl (G.pt.root i hi eA).2
            | some j => have := (G.pt.step i j hi eA).2.1; omega
          | succ n ih =>
            intro i hi hn
            cases eA : p.1.A i with
            | none => exact .inl (G.pt.root i hi eA).2
            | some j =>
              obtain ⟨q1, q2, q3, q4, _⟩ := G.pt.step i j hi eA
              rw [q4]
              exact pm_mul (ih j q1 (by omega)) (sgn_pm j i)
        exact this _ cur hcL (Nat.le_refl _)
      refine ev_op (N.sign hcL (ev_fldI (ev_var rfl) ha rfl) (ev_op (ev_own rfl) (ev_var rfl) (o2_ixL (atN hk)))) (ev_ife (d := .int (sgn ls cur o)) te (fun q => ?_) (fun q => ?_)) (o2_mul ?_)
      · unfold sgn; rw [if_pos q]; exact ev_c
      · unfold sgn; rw [if_neg (by rw [q]; decide)]; exact ev_neg ev_c
      · have h2 := sgn_pm (ls := ls) cur o
        rcases hS with q | q <;> rcases h2 with q2 | q2 <;> rw [q, q2] <;> exact mul_small (by decide) (by decide) (by decide) (by decide)
    refine sqStep (hx _ (putAt_ev (ev_fldI (ev_var rfl) ha rfl) (ev_var rfl) e1 s1 ?_))
    have n1 : a ≠ b1 := fun z => by rw [z, e1] at ha; cases ha
    have n2 : a ≠ b2 := fun z => by rw [z, e2] at ha; cases ha
    have ha1 : updM M b1 (.dik (putDK k1 (.inl (o : Int)) (.int (p.1.S cur * sgn ls cur o)))) a = some (.ins C.Net (netFs d b1 b2 b3)) := by rw [updM_nb n1]; exact ha
    have ha2 : updM (updM M b1 (.dik (putDK k1 (.inl (o : Int)) (.int (p.1.S cur * sgn ls cur o))))) b2 (.dik (putDK k2 (.inl (o : Int)) (.int (first : Nat)))) a = some (.ins C.Net (netFs d b1 b2 b3)) := by rw [updM_nb n2]; exact ha1
    have hline : ∀ {M : Mm}, Ev (dOp fIx (dOwn 2) (dVar 3)) w (ρg a first p.2 k (some (.val (.int (o : Int)))) (some (.val (.str (bnd ls cur o))))) M (.int (cur : Int)) := ev_op (ev_own rfl) (ev_var rfl) (o2_ixL (atN hk))
    have key : (dSeq (dPut2Dk (dVar 1) (dOp fIx (dOwn 2) (dVar 3)) (dFld C.Net "n_heads" (dVar 0)) (dVar 4) (dFld C.Net "n_ahead" (dVar 0)) (dVar 4)) (dApp 2 (dVar 4))) w P (ρg a first p.2 k (some (.val (.int (o : Int)))) (some (.val (.str (bnd ls cur o))))) (updM M b1 (.dik (putDK k1 (.inl (o : Int)) (.int (p.1.S cur * sgn ls cur o))))) := by
      refine sqStep ?_
      refine (ev_var (i := 1) (d := .int (first : Int)) rfl) _ (hline _ ?_)
      refine putAt_ev (ev_fldI (ev_var rfl) ha1 rfl) (ev_var rfl) (show updM M b1 _ b2 = some (.dik k2) by rw [updM_nb (Ne.symm N.n12)]; exact e2) s2 ?_
      refine putAt_ev (ev_fldI (ev_var rfl) ha2 rfl) (ev_var rfl) (show updM (updM M b1 _) b2 _ b3 = some (.dik k3) by rw [updM_nb (Ne.symm N.n23), updM_nb (Ne.symm N.n13)]; exact e3) s3 ?_
      refine app_ev rfl (by rw [List.length_map]; omega) (ev_var rfl) ?_
      have := hN _ N' F'
      have el : (p.2 ++ [o]).map (fun i : Nat => D.int (i : Int)) = p.2.map (fun i : Nat => D.int (i : Int)) ++ [D.int (o : Int)] := by rw [List.map_append]; rfl
      rw [show ρg a first (p.1.add o (p.1.S cur * sgn ls cur o) first (some cur), p.2 ++ [o]).2 k (some (.val (.int (o : Int)))) (some (.val (.str (bnd ls cur o)))) = [some (.val (.raw (.ref a))), some (.val (.int (first : Int))), some (.own (p.2.map (fun i : Nat => D.int (i : Int)) ++ [D.int (o : Int)])), some (.val (.int (k : Int))), some (.val (.int (o : Int))), some (.val (.str (bnd ls cur o)))] by show [_, _, some (Sv.own ((p.2 ++ [o]).map _)), _, _, _] = _; rw [el]] at this
      exact this
    exact key
  · have c := of_decide_eq_false c
    unfold visit at hN
    rw [if_neg c] at hN
    exact hN M N fun _ _ _ _ => rfl
theorem sh_Net_go_through (C : Cl) : Shows (sp_Net_go_through C) 6 (rd_Net_go_through C) := by
  intro ds M q e h
  obtain ⟨s, x, rfl, a, b1, b2, b3, ls, d, t, first, rfl, rfl, ha, hl, hd, N, ⟨T, c0, hf, hfl⟩, hq⟩ := ar2_of h
  have h6 := hl.2.1
  have hlenL : t.L.length ≤ ls.length := by
    have := nodup_lenG T.nd (ns := List.range ls.length) fun i hi => List.mem_range.mpr (T.lt i hi)
    rw [List.length_range] at this
    exact this
  obtain ⟨k1, k2, k3, e1, e2, e3, s1, s2, s3⟩ := N.small (by omega)
  obtain ⟨N1, F1⟩ := N.add hf (s := 1) (h := first) (u := none) e1 e2 e3
  have n1 : a ≠ b1 := fun z => by rw [z, e1] at ha; cases ha
  have n2 : a ≠ b2 := fun z => by rw [z, e2] at ha; cases ha
  have ha1 : updM M b1 (.dik (putDK k1 (.inl (first : Int)) (.int 1))) a = some (.ins C.Net (netFs d b1 b2 b3)) := by rw [updM_nb n1]; exact ha
  have ha2 : updM (updM M b1 (.dik (putDK k1 (.inl (first : Int)) (.int 1)))) b2 (.dik (putDK k2 (.inl (first : Int)) (.int (first : Nat)))) a = some (.ins C.Net (netFs d b1 b2 b3)) := by rw [updM_nb n2]; exact ha1
  have G0 : GI ls first t (t.add first 1 first none, [first]) := ⟨T.add hf hfl (fun _ => ⟨rfl, rfl⟩) (fun j e => nomatch e), rfl, fun i hi => by rw [List.mem_singleton.mp hi]; exact add_eq.2.1, fun i hi => (add_ne (t := t) (i := first) (j := i) (fun z => hf (z ▸ hi))).2.1⟩
  refine sqStep (put3_ev ev_c (ev_var (d := .int (first : Int)) rfl) ev_c ?_)
  refine putAt_ev (n := (first : Int)) (ev_fldI (ev_var (i := 0) rfl) ha rfl) (ev_var (i := 1) rfl) e1 s1 ?_
  refine putAt_ev (ev_fldI (ev_var (i := 0) rfl) ha1 rfl) (ev_var (i := 1) rfl) (show updM M b1 _ b2 = some (.dik k2) by rw [updM_nb (Ne.symm N.n12)]; exact e2) s2 ?_
  refine putAt_ev (ev_fldI (ev_var (i := 0) rfl) ha2 rfl) (ev_var (i := 1) rfl) (show updM (updM M b1 _) b2 _ b3 = some (.dik k3) by rw [updM_nb (Ne.symm N.n23), updM_nb (Ne.symm N.n13)]; exact e3) s3 ?_
  generalize hM1 : updM (updM (updM M b1 (.dik (putDK k1 (.inl (first : Int)) (.int 1)))) b2 (.dik (putDK k2 (.inl (first : Int)) (.int (first : Nat))))) b3 (.dik (putDK k3 (.inl (first : Int)) (fA none))) = M1 at N1 F1
  rw [show (D.non) = fA none from rfl, hM1]
  have ha3 := F1.ins N ha
  refine ⟨by show 1 ≤ 1000000; decide, ?_⟩
  refine ⟨fun m ρ M' => ∃ (k : Nat) (p : Nt × List Nat) (x4 x5 : Option Sv), ρ = ρg a first p.2 k x4 x5 ∧ NS M' b1 b2 b3 p.1 ∧ Fr M M' b1 b2 b3 ∧ GI ls first t p ∧ k ≤ p.2.length ∧ m + k = ls.length + 1 ∧ (goF ls first m k p).1 = goAll ls first t,
    ⟨ls.length + 1, 0, _, none, none, rfl, N1, F1, G0, Nat.zero_le _, rfl, rfl⟩, ?_⟩
  rintro m ρ M' ⟨k, p, x4, x5, rfl, Np, Fp, Gp, hk, hmk, hgo⟩
  have hap := Fp.ins N ha
  have hlen := Gp.len
  have hlen2 : p.2.length ≤ p.1.L.length := by rw [Gp.L, List.length_append]; omega
  obtain ⟨m, rfl⟩ : ∃ m', m = m' + 1 := ⟨m - 1, by omega⟩
  have hlen3 : Ev (dB1 fLen (dOwn 2)) (fun cls fs x M' => ∃ M2, MLe M2 M' ∧ e cls fs M2) (ρg a first p.2 k x4 x5) M' (.int (p.2.length : Int)) := by
    have := ev_b1 (ev_own (w := fun cls fs x M' => ∃ M2, MLe M2 M' ∧ e cls fs M2) (M := M') (ρ := ρg a first p.2 k x4 x5) (i := 2) rfl) (o1_lenL (l := p.2.map fun i : Nat => D.int (i : Int)))
    rw [List.length_map] at this
    exact this
  refine (evt (ev_op (ev_var (i := 3) rfl) hlen3 o2_cmp)) _ ?_
  by_cases hlt : k < p.2.length
  · rw [if_pos (show decide ((k : Int) < (p.2.length : Int)) = true from decide_eq_true (by omega))]
    obtain ⟨cur, hcur⟩ : ∃ cur, p.2[k]? = some cur := ⟨_, List.getElem?_eq_getElem hlt⟩
    have hc : cur ∈ p.2 := List.mem_of_getElem? hcur
    have hcl : cur < ls.length := Gp.pt.lt cur (by rw [Gp.L]; exact List.mem_append.mpr (.inr hc))
    have hgo2 : goF ls first (m + 1) k p = goF ls first m (k + 1) (inner ls first cur p) := by
      conv => lhs; unfold goF
      rw [hcur]
    rw [hgo2] at hgo
    refine sqStep (forN_ev (ev_b1 (ev_fldI (ev_var (i := 0) rfl) hap rfl) (o1_lenK hd)) (by omega) ?_)
    refine forR_ix (fun o ρ M2 => ∃ (x4 x5 : Option Sv), ρ = ρg a first ((List.range o).foldl (visit ls first cur) p).2 k x4 x5 ∧ NS M2 b1 b2 b3 ((List.range o).foldl (visit ls first cur) p).1 ∧ Fr M M2 b1 b2 b3 ∧ GI ls first t ((List.range o).foldl (visit ls first cur) p) ∧ p.2 <+: ((List.range o).foldl (visit ls first cur) p).2) _ 0 ?_ ?_ _ _ ⟨x4, x5, rfl, Np, Fp, Gp, List.prefix_refl _⟩
    · rintro o z hz F hF ρ M2 ⟨x4, x5, rfl, N2, F2, G2, P2⟩
      obtain ⟨ho, rfl⟩ := enum_range hz
      rw [Nat.zero_add] at hF N2 G2 P2 ⊢
      have ha2' := F2.ins N ha
      generalize hp2 : (List.range o).foldl (visit ls first cur) p = p2 at N2 G2 P2
      have hcur2 : p2.2[k]? = some cur := by
        obtain ⟨r, hr⟩ := P2
        rw [← hr, List.getElem?_append_left hlt]
        exact hcur
      have hb : Ev (dCall (sp_bond C) [] (dCons (dOp fIx (dFld C.Net "n_looks" (dVar 0)) (dOp fIx (dOwn 2) (dVar 3))) (dCons (dOp fIx (dFld C.Net "n_looks" (dVar 0)) (dVar 4)) dNil))) (fun cls fs x M' => ∃ M2, MLe M2 M' ∧ e cls fs M2) (ρg a first p2.2 k (some (.val (.int (o : Int)))) x5) M2 (.str (bnd ls cur o)) :=
        ev_bond hl hcl ho (ev_at hd hcl (ev_fldI (ev_var rfl) ha2' rfl) (ev_op (ev_own rfl) (ev_var rfl) (o2_ixL (atN hcur2)))) (ev_at hd ho (ev_fldI (ev_var rfl) ha2' rfl) (ev_var rfl))
      refine sqSet hb ?_
      obtain ⟨v1, v2, v3⟩ := G2.visit c0 (List.mem_of_getElem? hcur2) ho
      refine goTail_ok (C := C) hl hd ha2' N2 G2 hcur2 ho fun M3 N3 F3 => ?_
      have er : (List.range (o + 1)).foldl (visit ls first cur) p = visit ls first cur p2 o := by rw [List.range_succ, List.foldl_append, hp2]; rfl
      refine hF _ _ ⟨some (.val (.int (o : Int))), some (.val (.str (bnd ls cur o))), ?_, ?_, F2.trans F3, ?_, ?_⟩
      · rw [er]
      · rw [er]; exact N3
      · rw [er]; exact v1
      · rw [er]; exact P2.trans v2
    · rintro ρ M2 ⟨x4, x5, rfl, N2, F2, G2, P2⟩
      rw [rngD_len, Nat.zero_add] at N2 G2 P2 ⊢
      have ei : (List.range ls.length).foldl (visit ls first cur) p = inner ls first cur p := rfl
      rw [ei] at N2 G2 P2 ⊢
      have hle := P2.length_le
      refine ⟨(k : Int), rfl, 1, rfl, m, by omega, k + 1, inner ls first cur p, x4, x5, rfl, N2, F2, G2, by omega, by omega, hgo⟩
  · rw [if_neg (show ¬ decide ((k : Int) < (p.2.length : Int)) = true by rw [decide_eq_true_eq]; omega)]
    have hgo2 : goF ls first (m + 1) k p = p := by
      conv => lhs; unfold goF
      rw [List.getElem?_eq_none (by omega)]
    rw [hgo2] at hgo
    exact ⟨M', MLe.refl _, hq M' (by rw [← hgo]; exact Np) Fp⟩
end
end Px
set_option Elab.async false
set_option linter.all false
set_option maxRecDepth 100000
namespace Px
open PySem PySem.Spec PyProof.Rows L2
def netD (C : Cl) (d : D) (b1 b2 b3 : Addr) : D := .obj C.Net ((netFs d b1 b2 b3).map (·.1)) ((netFs d b1 b2 b3).map (·.2))
def sp_Net___init__ (C : Cl) : PSp := fun ds M q _ => ar2 ds fun s d => insAt C.Net s M fun a fs => fs = [] ∧ ∃ ls, LkOk ls ∧ isLks d ls ∧
  ∀ b1 b2 b3 M', M' a = some (.ins C.Net (netFs d b1 b2 b3)) → NS M' b1 b2 b3 (netF ls) → (∀ b mo, b ≠ a → M b = some mo → M' b = some mo) → q .non M'
def rd_Net___init__ (C : Cl) : PTS := (dSeq (dFldSet C.Net "n_looks" (dVar 1) (dVar 0))
    (dSeq (dFldSet C.Net "n_signs" dNewDk (dVar 0))
    (dSeq (dFldSet C.Net "n_heads" dNewDk (dVar 0))
    (dSeq (dFldSet C.Net "n_ahead" dNewDk (dVar 0))
    (dFor (iR1 (dB1 fLen (dVar 1))) (gNm 2) (dIfS (dTst (dInDk true (dVar 2) (dFld C.Net "n_signs" (dVar 0)))) (dDrop (dMeth C.Net "go_through" (sp_Net_go_through C) (dVar 0) (dCons (dVar 2) dNil))) dNext))))))
theorem meth_run {w : PWi} {ρ : Rho} {M : Mm} {po : PTE} {pl : PTA} {sp : PSp} {K : Addr} {m : Str} {d : D} {ds : List D} {q : PQ} (ho : Ev po w ρ M d) (hi : insOf K m d M) (ha : EvA pl w ρ M ds) (k : sp (d :: ds) M q fun cls fs M3 => w cls fs ρ M3) : dMeth K m sp po pl w ρ M q := ho _ ⟨hi, ha _ k⟩
theorem drop_run {w : PWi} {P : PEnds} {ρ : Rho} {M : Mm} {pe : PTE} (k : pe w ρ M fun _ M' => P.nx ρ M') : dDrop pe w P ρ M := k
theorem fld_new {C : Addr} {f : Str} {w : PWi} {P : PEnds} {ρ : Rho} {M : Mm} {a : Addr} {fs : List (Str × D)} {po : PTE} (ho : ∀ M, Ev po w ρ M (.raw (.ref a))) (ha : M a = some (.ins C fs)) (hl : fs.length < 1000) (k : ∀ b, M b = none → P.nx ρ (updM (updM M b (.dik [])) a (.ins C (putFD f (.raw (.ref b)) fs)))) :
    dFldSet C f dNewDk po w P ρ M := fun b hb => (ho _) _ ⟨fs, by rw [updM_nb (fun z => by rw [← z, ha] at hb; cases hb)]; exact ha, hl, k b hb⟩
theorem sh_Net___init__ (C : Cl) : Shows (sp_Net___init__ C) 3 (rd_Net___init__ C) := by
  intro ds M q e h
  obtain ⟨s, d, rfl, h⟩ := ar2_of h
  obtain ⟨a, fs, rfl, ha, rfl, ls, hl, hd, hq⟩ := insAt_of h
  have h6 := hl.2.1
  have hs : ∀ {ρ : Rho}, gt ρ 0 = some (.val (.raw (.ref a))) → ∀ M, Ev (dVar 0) (fun cls fs x M' => ∃ M2, MLe M2 M' ∧ e cls fs M2) ρ M (.raw (.ref a)) := fun h M => ev_var h
  refine sqStep ?_
  refine (ev_var (i := 1) (d := d) rfl) _ ((hs rfl M) _ ⟨[], ha, by show 0 < 1000; decide, ?_⟩)
  have ha1 : updM M a (.ins C.Net (putFD "n_looks" d [])) a = some (.ins C.Net [(("n_looks" : Str), d)]) := updM_same
  have f1 : ∀ b mo, b ≠ a → M b = some mo → updM M a (.ins C.Net (putFD "n_looks" d [])) b = some mo := fun b mo hb hm => by rw [updM_nb hb]; exact hm
  generalize updM M a (.ins C.Net (putFD "n_looks" d [])) = M1 at ha1 f1 ⊢
  refine sqStep (fld_new (hs rfl) ha1 (by show 1 < 1000; decide) fun b1 hb1 => ?_)
  have na1 : a ≠ b1 := fun z => by rw [← z, ha1] at hb1; cases hb1
  have ha2 : updM (updM M1 b1 (.dik [])) a (.ins C.Net (putFD "n_signs" (.raw (.ref b1)) [(("n_looks" : Str), d)])) a = some (.ins C.Net [(("n_looks" : Str), d), (("n_signs" : Str), .raw (.ref b1))]) := updM_same
  have d2 : updM (updM M1 b1 (.dik [])) a (.ins C.Net (putFD "n_signs" (.raw (.ref b1)) [(("n_looks" : Str), d)])) b1 = some (.dik []) := by rw [updM_nb (Ne.symm na1), updM_same]
  have f2 : ∀ b mo, b ≠ a → M b = some mo → updM (updM M1 b1 (.dik [])) a (.ins C.Net (putFD "n_signs" (.raw (.ref b1)) [(("n_looks" : Str), d)])) b = some mo := fun b mo hb hm => by
    rw [updM_nb hb, updM_nb (fun z => by rw [← z, f1 b mo hb hm] at hb1; cases hb1)]
    exact f1 b mo hb hm
  generalize updM (updM M1 b1 (.dik [])) a (.ins C.Net (putFD "n_signs" (.raw (.ref b1)) [(("n_looks" : Str), d)])) = M2 at ha2 d2 f2 ⊢
  refine sqStep (fld_new (hs rfl) ha2 (by show 2 < 1000; decide) fun b2 hb2 => ?_)
  have na2 : a ≠ b2 := fun z => by rw [← z, ha2] at hb2; cases hb2
  have n12 : b1 ≠ b2 := fun z => by rw [← z, d2] at hb2; cases hb2
  have ha3 : updM (updM M2 b2 (.dik [])) a (.ins C.Net (putFD "n_heads" (.raw (.ref b2)) [(("n_looks" : Str), d), (("n_signs" : Str), .raw (.ref b1))])) a = some (.ins C.Net [(("n_looks" : Str), d), (("n_signs" : Str), .raw (.ref b1)), (("n_heads" : Str), .raw (.ref b2))]) := updM_same
  have d3 : updM (updM M2 b2 (.dik [])) a (.ins C.Net (putFD "n_heads" (.raw (.ref b2)) [(("n_looks" : Str), d), (("n_signs" : Str), .raw (.ref b1))])) b1 = some (.dik []) ∧ updM (updM M2 b2 (.dik [])) a (.ins C.Net (putFD "n_heads" (.raw (.ref b2)) [(("n_looks" : Str), d), (("n_signs" : Str), .raw (.ref b1))])) b2 = some (.dik []) :=
    ⟨by rw [updM_nb (Ne.symm na1), updM_nb n12]; exact d2, by rw [updM_nb (Ne.symm na2), updM_same]⟩
  have f3 : ∀ b mo, b ≠ a → M b = some mo → updM (updM M2 b2 (.dik [])) a (.ins C.Net (putFD "n_heads" (.raw (.ref b2)) [(("n_looks" : Str), d), (("n_signs" : Str), .raw (.ref b1))])) b = some mo := fun b mo hb hm => by
    rw [updM_nb hb, updM_nb (fun z => by rw [← z, f2 b mo hb hm] at hb2; cases hb2)]
    exact f2 b mo hb hm
  generalize updM (updM M2 b2 (.dik [])) a (.ins C.Net (putFD "n_heads" (.raw (.ref b2)) [(("n_looks" : Str), d), (("n_signs" : Str), .raw (.ref b1))])) = M3 at ha3 d3 f3 ⊢
  refine sqStep (fld_new (hs rfl) ha3 (by show 3 < 1000; decide) fun b3 hb3 => ?_)
  have na3 : a ≠ b3 := fun z => by rw [← z, ha3] at hb3; cases hb3
  have n13 : b1 ≠ b3 := fun z => by rw [← z, d3.1] at hb3; cases hb3
  have n23 : b2 ≠ b3 := fun z => by rw [← z, d3.2] at hb3; cases hb3
  have ha4 : updM (updM M3 b3 (.dik [])) a (.ins C.Net (netFs d b1 b2 b3)) a = some (.ins C.Net (netFs d b1 b2 b3)) := updM_same
  have N0 : NS (updM (updM M3 b3 (.dik [])) a (.ins C.Net (netFs d b1 b2 b3))) b1 b2 b3 nt0 :=
    ⟨n12, n13, n23, ⟨[], by rw [updM_nb (Ne.symm na1), updM_nb n13]; exact d3.1, Nat.le_refl _, fun i => rfl⟩, ⟨[], by rw [updM_nb (Ne.symm na2), updM_nb n23]; exact d3.2, Nat.le_refl _, fun i => rfl⟩, ⟨[], by rw [updM_nb (Ne.symm na3), updM_same], Nat.le_refl _, fun i => rfl⟩⟩
  have f4 : ∀ b mo, b ≠ a → M b = some mo → b ≠ b1 ∧ b ≠ b2 ∧ b ≠ b3 ∧ updM (updM M3 b3 (.dik [])) a (.ins C.Net (netFs d b1 b2 b3)) b = some mo := fun b mo hb hm => by
    have z1 : b ≠ b1 := fun z => by rw [← z, f1 b mo hb hm] at hb1; cases hb1
    have z2 : b ≠ b2 := fun z => by rw [← z, f2 b mo hb hm] at hb2; cases hb2
    have z3 : b ≠ b3 := fun z => by rw [← z, f3 b mo hb hm] at hb3; cases hb3
    refine ⟨z1, z2, z3, ?_⟩
    rw [updM_nb hb, updM_nb z3]
    exact f3 b mo hb hm
  have key : dFor (iR1 (dB1 fLen (dVar 1))) (gNm 2) (dIfS (dTst (dInDk true (dVar 2) (dFld C.Net "n_signs" (dVar 0)))) (dDrop (dMeth C.Net "go_through" (sp_Net_go_through C) (dVar 0) (dCons (dVar 2) dNil))) dNext) (fun cls fs x M' => ∃ M2, MLe M2 M' ∧ e cls fs M2)
      { nx := fun x M' => ∃ M2, MLe M2 M' ∧ q D.non M2, rt := fun d M' => ∃ M2, MLe M2 M' ∧ q d M2 } [some (.val (.raw (.ref a))), some (.val d), none] (updM (updM M3 b3 (.dik [])) a (.ins C.Net (netFs d b1 b2 b3))) := by
    generalize updM (updM M3 b3 (.dik [])) a (.ins C.Net (netFs d b1 b2 b3)) = M4 at ha4 N0 f4
    refine forN_ev (ev_b1 (ev_var (i := 1) rfl) (o1_lenK hd)) (by omega) ?_
    refine forR_ix (fun i ρ M' => ∃ x2, ρ = [some (.val (.raw (.ref a))), some (.val d), x2] ∧ NS M' b1 b2 b3 ((List.range i).foldl (netStep ls) nt0) ∧ Fr M4 M' b1 b2 b3) _ 0 ?_ ?_ _ _ ⟨none, rfl, N0, fun _ _ _ _ => rfl⟩
    · rintro i z hz F hF ρ M' ⟨x2, rfl, N, Fm⟩
      obtain ⟨hi, rfl⟩ := enum_range hz
      rw [Nat.zero_add] at hF N
      obtain ⟨p1, p2, p3⟩ := net_part ls i (by omega)
      have er : (List.range (i + 1)).foldl (netStep ls) nt0 = netStep ls ((List.range i).foldl (netStep ls) nt0) i := by rw [List.range_succ, List.foldl_append]; rfl
      rw [er] at hF
      generalize (List.range i).foldl (netStep ls) nt0 = t at N p1 p2 p3 hF
      have haM := Fm.ins N0 ha4
      refine if_ev (evt (N.notin (ev_var (i := 2) rfl) (ev_fldI (ev_var (i := 0) rfl) haM rfl))) (fun c => ?_) (fun c => ?_)
      · have c := of_decide_eq_true c
        refine drop_run (meth_run (ev_var (i := 0) (d := .raw (.ref a)) rfl) ⟨_, haM, by show ("go_through" : Str) ∉ (["n_looks", "n_signs", "n_heads", "n_ahead"] : List Str); decide⟩ (eva_cons (ev_var (i := 2) (d := .int (i : Int)) rfl) eva_nil) ?_)
        refine ⟨a, b1, b2, b3, ls, d, t, i, rfl, rfl, haM, hl, hd, N, ⟨p1, p2, c, hi⟩, fun M5 N5 F5 => ?_⟩
        refine hF _ _ ⟨some (.val (.int (i : Int))), rfl, ?_, Fm.trans F5⟩
        unfold netStep
        rw [if_neg c]
        exact N5
      · have c := of_decide_eq_false c
        refine hF _ _ ⟨some (.val (.int (i : Int))), rfl, ?_, Fm⟩
        unfold netStep
        rw [if_pos (Classical.byContradiction c)]
        exact N
    · rintro ρ M' ⟨x2, rfl, N, Fm⟩
      rw [rngD_len, Nat.zero_add] at N
      refine ⟨M', MLe.refl _, hq b1 b2 b3 M' (Fm.ins N0 ha4) N fun b mo hb hm => ?_⟩
      obtain ⟨z1, z2, z3, z4⟩ := f4 b mo hb hm
      rw [Fm b z1 z2 z3]
      exact z4
  exact key
section
variable {C : Cl} {w : PWi} {P : PEnds} {ρ : Rho} {M : Mm} {pa pb po : PTE} {ls : List (Int × Int)} {d : D} {b1 b2 b3 : Addr} {t : Nt}
theorem make_net {q : PQ} (hl : LkOk ls) (hd : isLks d ls) (ha : Ev pa w ρ M d) (k : ∀ b1 b2 b3 M', NS M' b1 b2 b3 (netF ls) → MLe M M' → q (netD C d b1 b2 b3) M') : dMake C.Net (sp_Net___init__ C) (dCons pa dNil) w ρ M q := ha _ (by
  intro a hna
  refine ⟨[], updM_same, rfl, ls, hl, hd, fun b1 b2 b3 M' h1 N h2 => ⟨rfl, _, h1, ?_⟩⟩
  have e : ∀ b, b ≠ a → delM M' a b = M' b := fun b hb => by unfold delM; rw [if_neg hb]
  obtain ⟨y1, f1, g1⟩ := id N.s
  obtain ⟨y2, f2, g2⟩ := id N.h
  obtain ⟨y3, f3, g3⟩ := id N.a
  have z1 : b1 ≠ a := fun z => by rw [z, h1] at f1; cases f1
  have z2 : b2 ≠ a := fun z => by rw [z, h1] at f2; cases f2
  have z3 : b3 ≠ a := fun z => by rw [z, h1] at f3; cases f3
  refine k b1 b2 b3 _ ⟨N.n12, N.n13, N.n23, ⟨y1, by rw [e b1 z1]; exact f1, g1⟩, ⟨y2, by rw [e b2 z2]; exact f2, g2⟩, ⟨y3, by rw [e b3 z3]; exact f3, g3⟩⟩ fun b mo hb => ?_
  have hb' : b ≠ a := fun z => by rw [z, hna] at hb; cases hb
  rw [e b hb']
  exact h2 b mo hb' (by rw [updM_nb hb']; exact hb))
theorem ev_netF {f : Str} {v : D} (ha : Ev pa w ρ M (netD C d b1 b2 b3)) (h : (netFs d b1 b2 b3).lookup f = some v) : Ev (dFld C.Net f pa) w ρ M v := ev_fld ha (by
  rw [zip_fs]; exact h)
theorem ev_looks (ha : Ev pa w ρ M (netD C d b1 b2 b3)) : Ev (dFld C.Net "n_looks" pa) w ρ M d := ev_netF ha rfl
def wayN (t : Nt) : Nat → Nat → List Nat
  | 0, i => [i]
  | f + 1, i => match t.A i with
    | none => [i]
    | some j => i :: wayN t f j
def wayF (t : Nt) (i : Nat) : List Nat := wayN t (t.L.idxOf i) i
def sp_Net_way (C : Cl) : PSp := fun ds M q _ => ar2 ds fun s x => ∃ (b1 b2 b3 : Addr) (ls : List (Int × Int)) (d : D) (t : Nt) (i : Nat), s = netD C d b1 b2 b3 ∧ x = .int (i : Int) ∧ NS M b1 b2 b3 t ∧ PT ls t ∧ ls.length ≤ 6 ∧ i ∈ t.L ∧ q (.lst ((wayF t i).map fun i : Nat => D.int (i : Int))) M
def rd_Net_way (C : Cl) : PTS := (dSeq (dSetO 2 (dLst (dCons (dVar 1) dNil)))
    (dSeq (dWhile (dTst (dOp fIsNot (dGetDk (dFld C.Net "n_ahead" (dVar 0)) (dOp fIx (dOwn 2) (dNeg (dC (.int 1))))) (dC .non))) (dApp 2 (dGetDk (dFld C.Net "n_ahead" (dVar 0)) (dOp fIx (dOwn 2) (dNeg (dC (.int 1)))))))
    (dFrz 2 (dRet (dVar 2)))))
theorem sh_Net_way (C : Cl) : Shows (sp_Net_way C) 3 (rd_Net_way C) := by
  intro ds M q e h
  obtain ⟨s, x, rfl, b1, b2, b3, ls, d, t, i, rfl, rfl, N, T, h6, hi, hq⟩ := ar2_of h
  have hL : t.L.length ≤ 6 := by
    have := nodup_lenG T.nd (ns := List.range ls.length) fun i hi => List.mem_range.mpr (T.lt i hi)
    rw [List.length_range] at this
    omega
  refine ⟨by show 1 ≤ 1000000; decide, ?_⟩
  refine ⟨fun m ρ M' => M' = M ∧ ∃ (pre : List Nat) (j : Nat), ρ = [some (.val (netD C d b1 b2 b3)), some (.val (.int (i : Int))), some (.own ((pre ++ [j]).map fun i : Nat => D.int (i : Int)))] ∧ j ∈ t.L ∧ t.L.idxOf j ≤ m ∧ pre ++ wayN t m j = wayF t i ∧ pre.length + m ≤ 6,
    ⟨t.L.idxOf i, rfl, [], i, rfl, hi, Nat.le_refl _, rfl, by have := List.idxOf_lt_length_iff.mpr hi; show 0 + _ ≤ 6; omega⟩, ?_⟩
  rintro m ρ M' ⟨rfl, pre, j, rfl, hj, hm, hW, hl⟩
  have elast : atI ((pre ++ [j]).map fun i : Nat => D.int (i : Int)) (-1) = some (.int (j : Int)) := by
    have hlen : ((pre ++ [j]).map fun i : Nat => D.int (i : Int)).length = pre.length + 1 := by rw [List.length_map, List.length_append]; rfl
    unfold atI ixN
    rw [hlen, if_neg (by decide), if_pos (by omega)]
    show ((pre ++ [j]).map fun i : Nat => D.int (i : Int))[((-1 : Int) + ((pre.length + 1 : Nat) : Int)).toNat]? = _
    rw [show ((-1 : Int) + ((pre.length + 1 : Nat) : Int)).toNat = pre.length by omega, List.getElem?_map, List.getElem?_append_right (Nat.le_refl _), Nat.sub_self]
    rfl
  have ex : Ev (dGetDk (dFld C.Net "n_ahead" (dVar 0)) (dOp fIx (dOwn 2) (dNeg (dC (.int 1))))) (fun cls fs x M' => ∃ M2, MLe M2 M' ∧ e cls fs M2) [some (.val (netD C d b1 b2 b3)), some (.val (.int (i : Int))), some (.own ((pre ++ [j]).map fun i : Nat => D.int (i : Int)))] M' (fA (t.A j)) :=
    N.ahead hj (ev_netF (ev_var rfl) rfl) (ev_op (ev_own rfl) (ev_neg ev_c) (o2_ixL elast))
  refine (evt (ev_op ex ev_c (o2_isnN (by cases t.A j <;> rfl)))) _ ?_
  cases eA : t.A j with
  | none =>
    have e1 : wayN t m j = [j] := by cases m <;> (unfold wayN; first | rfl | rw [eA])
    rw [e1] at hW
    rw [if_neg (show ¬ (!isN (fA none)) = true by decide)]
    rw [← hW] at hq
    exact ⟨M', MLe.refl _, hq⟩
  | some u =>
    rw [if_pos (show (!isN (fA (some u))) = true from rfl)]
    obtain ⟨u1, u2, _⟩ := T.step j u hj eA
    obtain ⟨m, rfl⟩ : ∃ k, m = k + 1 := ⟨m - 1, by omega⟩
    have e1 : wayN t (m + 1) j = j :: wayN t m u := by conv => lhs; unfold wayN; rw [eA]
    rw [e1] at hW
    rw [eA] at ex
    refine app_ev rfl (by rw [List.length_map, List.length_append, List.length_singleton]; omega) ex ?_
    refine ⟨m, by omega, rfl, pre ++ [j], u, ?_, u1, by omega, ?_, ?_⟩
    · show [_, _, some (Sv.own (((pre ++ [j]).map fun i : Nat => D.int (i : Int)) ++ [D.int (u : Int)]))] = _
      rw [List.map_append (l₂ := [u])]
      rfl
    · rw [List.append_assoc]; exact hW
    · rw [List.length_append, List.length_singleton]; omega
def sp_Net_classes (C : Cl) : PSp := fun ds M q _ => ar1 ds fun s => ∃ (b1 b2 b3 : Addr) (ls : List (Int × Int)) (d : D), s = netD C d b1 b2 b3 ∧ LkOk ls ∧ isLks d ls ∧ NS M b1 b2 b3 (netF ls) ∧ q (.lst ((clsL ls (netF ls).Hd).map fun i : Nat => D.int (i : Int))) M
def rd_Net_classes (C : Cl) : PTS := (dSeq (dSetO 1 (dLst dNil))
    (dSeq (dFor (iR1 (dB1 fLen (dFld C.Net "n_looks" (dVar 0)))) (gNm 2) (dSeq (dAsg (dOp fIx (dFld C.Net "n_looks" (dVar 0)) (dVar 2)) (gTp 2 (gsCons (gNm 3) (gsCons (gNm 4) gsNil))))
    (dIfS (dAnd (dTst (dOp fEq (dGetDk (dFld C.Net "n_heads" (dVar 0)) (dVar 2)) (dVar 2))) (dTst (dChain fLt fLt (dC (.int 0)) (dVar 4) (dVar 3)))) (dApp 1 (dVar 2)) dNext)))
    (dFrz 1 (dRet (dVar 1)))))
theorem sh_Net_classes (C : Cl) : Shows (sp_Net_classes C) 5 (rd_Net_classes C) := by
  intro ds M q e h
  obtain ⟨s, rfl, b1, b2, b3, ls, d, rfl, hl, hd, N, hq⟩ := ar1_of h
  have h6 := hl.2.1
  refine sqSetO (ds := []) (fun q hq => ⟨by decide, hq⟩) ?_
  refine sqStep (forN_ev (ev_b1 (ev_looks (C := C) (b1 := b1) (b2 := b2) (b3 := b3) (ev_var (i := 0) rfl)) (o1_lenK hd)) (by omega) ?_)
  refine forR_ix (fun i ρ M' => M' = M ∧ ∃ x2 x3 x4, ρ = [some (.val (netD C d b1 b2 b3)), some (.own (((List.range i).filter fun i => decide ((netF ls).Hd i = i) && (decide (0 < sL ls i) && decide (sL ls i < hL ls i))).map fun i : Nat => D.int (i : Int))), x2, x3, x4]) _ 0 ?_ ?_ _ _ ⟨rfl, none, none, none, rfl⟩
  · rintro i z hz F hF ρ M' ⟨rfl, x2, x3, x4, rfl⟩
    obtain ⟨hi, rfl⟩ := enum_range hz
    rw [Nat.zero_add] at hF ⊢
    have hiL := (net_ok ls).2.2 i hi
    refine sqAsg (ev_at hd hi (ev_looks (C := C) (b1 := b1) (b2 := b2) (b3 := b3) (ev_var (i := 0) rfl)) (ev_var (i := 2) rfl)) ?_
    refine ⟨rfl, ?_⟩
    have key : dIfS (dAnd (dTst (dOp fEq (dGetDk (dFld C.Net "n_heads" (dVar 0)) (dVar 2)) (dVar 2))) (dTst (dChain fLt fLt (dC (.int 0)) (dVar 4) (dVar 3)))) (dApp 1 (dVar 2)) dNext (fun cls fs x M' => ∃ M2, MLe M2 M' ∧ e cls fs M2)
        { nx := F, rt := fun d M' => ∃ M2, MLe M2 M' ∧ q d M2, ct := F, bk := dFrz 1 (dRet (dVar 1)) (fun cls fs x M' => ∃ M2, MLe M2 M' ∧ e cls fs M2) { nx := fun x M' => ∃ M2, MLe M2 M' ∧ q D.non M2, rt := fun d M' => ∃ M2, MLe M2 M' ∧ q d M2 } }
        [some (.val (netD C d b1 b2 b3)), some (.own (((List.range i).filter fun i => decide ((netF ls).Hd i = i) && (decide (0 < sL ls i) && decide (sL ls i < hL ls i))).map fun i : Nat => D.int (i : Int))), some (.val (.int (i : Int))), some (.val (.int ls[i].1)), some (.val (.int ls[i].2))] M' := by
      have t1 := evt (ev_op (N.head (w := fun cls fs x M' => ∃ M2, MLe M2 M' ∧ e cls fs M2) (ρ := [some (.val (netD C d b1 b2 b3)), some (.own (((List.range i).filter fun i => decide ((netF ls).Hd i = i) && (decide (0 < sL ls i) && decide (sL ls i < hL ls i))).map fun i : Nat => D.int (i : Int))), some (.val (.int (i : Int))), some (.val (.int ls[i].1)), some (.val (.int ls[i].2))]) hiL (ev_netF (f := "n_heads") (ev_var (i := 0) rfl) rfl) (ev_var (i := 2) rfl)) (ev_var (i := 2) rfl) o2_eqI)
      have t2 : EvT (dTst (dChain fLt fLt (dC (.int 0)) (dVar 4) (dVar 3))) (fun cls fs x M' => ∃ M2, MLe M2 M' ∧ e cls fs M2) [some (.val (netD C d b1 b2 b3)), some (.own (((List.range i).filter fun i => decide ((netF ls).Hd i = i) && (decide (0 < sL ls i) && decide (sL ls i < hL ls i))).map fun i : Nat => D.int (i : Int))), some (.val (.int (i : Int))), some (.val (.int ls[i].1)), some (.val (.int ls[i].2))] M' (decide (0 < sL ls i) && decide (sL ls i < hL ls i)) := by
        rw [(hL_at hi).1, (hL_at hi).2]
        exact evt (ev_ch ev_c (ev_var (i := 4) rfl) (ev_var (i := 3) rfl))
      refine if_ev (evt_and t1 (fun _ => t2) (x := decide ((netF ls).Hd i = i) && (decide (0 < sL ls i) && decide (sL ls i < hL ls i))) (by
        congr 1
        by_cases z : (netF ls).Hd i = i
        · rw [decide_eq_true z, decide_eq_true (by omega)]
        · rw [decide_eq_false z, decide_eq_false (by omega)])) (fun c => ?_) (fun c => ?_)
      · refine app_ev rfl (by rw [List.length_map]; have := List.length_filter_le (fun i => decide ((netF ls).Hd i = i) && (decide (0 < sL ls i) && decide (sL ls i < hL ls i))) (List.range i); rw [List.length_range] at this; omega) (ev_var (i := 2) rfl) ?_
        refine hF _ _ ⟨rfl, some (.val (.int (i : Int))), some (.val (.int ls[i].1)), some (.val (.int ls[i].2)), ?_⟩
        rw [List.range_succ, List.filter_append, List.map_append, List.filter_cons, if_pos c]
        rfl
      · refine hF _ _ ⟨rfl, some (.val (.int (i : Int))), some (.val (.int ls[i].1)), some (.val (.int ls[i].2)), ?_⟩
        rw [List.range_succ, List.filter_append, List.map_append, List.filter_cons, if_neg (by rw [c]; decide)]
        simp
    exact key
  · rintro ρ M' ⟨rfl, x2, x3, x4, rfl⟩
    rw [rngD_len, Nat.zero_add]
    exact ⟨M', MLe.refl _, hq⟩
end
end Px
set_option Elab.async false
set_option linter.all false
set_option maxRecDepth 100000
namespace Px
open PySem PySem.Spec PyProof.Rows L2
def oddP (ls : List (Int × Int)) (t : Nt) (p : Nat × Nat) : Bool := jn ls p.1 p.2 && (alk ls p.1 p.2 != decide (t.S p.1 = t.S p.2))
def wayI (t : Nt) (i : Nat) : List Int := (wayF t i).map fun i : Nat => (i : Int)
def topI (h th : List Int) : Int := ((h.filter fun x => decide (x ∈ th)).head?).getD 0
def ringI (h th : List Int) : List Int := h.take (h.idxOf (topI h th) + 1) ++ (th.take (th.idxOf (topI h th))).reverse
def oddF (ls : List (Int × Int)) : Option (Nat × Nat) := (prsOf ls.length).find? (oddP ls (netF ls))
def oddD (ls : List (Int × Int)) : D := match oddF ls with
  | some p => .lst ((ringI (wayI (netF ls) p.1) (wayI (netF ls) p.2)).map .int)
  | none => .non
theorem wayI_D (t : Nt) (i : Nat) : ((wayF t i).map fun i : Nat => D.int (i : Int)) = (wayI t i).map D.int := by
  unfold wayI
  rw [List.map_map]
  rfl
theorem intsOf_mk : ∀ ns : List Int, intsOf (ns.map .int) = some ns
  | [] => rfl
  | n :: r => by
    show (match D.int n with | .int i => (intsOf (r.map .int)).map (i :: ·) | _ => none) = _
    rw [intsOf_mk r]; rfl
section
variable {w : PWi} {ρ : Rho} {M : Mm} {pa pb pk : PTE} {l : List D} {ns : List Int} {k : Nat} {x z : D} {f : F2}
theorem ev_mtl (ha : Ev pa w ρ M (.lst l)) (hb : Ev pb w ρ M x) (h : Op2 f (.lst l) x z) : Ev (dMtL f pa pb) w ρ M z := fun q hq => ha _ ⟨⟨l, rfl⟩, hb _ (h _ hq)⟩
theorem o2_idxK {i : Int} (h : i ∈ ns) : Op2 fIdxI (.lst (ns.map .int)) (.int i) (.int ((ns.idxOf i : Nat) : Int)) := fun κ hκ => ⟨ns, intsOf_mk ns, h, hκ⟩
theorem ev_upK (h : Ev pa w ρ M (.lst l)) (hk : Ev pk w ρ M (.int (k : Int))) : Ev (dSl pa dNo (dPt pk)) w ρ M (.lst (l.take k)) := fun q hq => h _ (hk _ (by
  show q (.lst (cutD l none (some (k : Int)))) M
  have e : cutD l none (some (k : Int)) = l.take k := by
    unfold cutD
    rw [HT.sIx_nat, HT.sIx_none]
    show l.take (min k l.length - 0) = _
    rcases Nat.le_total k l.length with h | h
    · rw [Nat.min_eq_left h]; rfl
    · rw [Nat.min_eq_right h, List.take_of_length_le h]; exact List.take_of_length_le (Nat.le_refl _)
  rw [e]; exact hq))
theorem ev_revK (h : Ev pa w ρ M (.lst l)) : Ev (dL (dG1 fRev pa)) w ρ M (.lst l.reverse) := fun q hq => h _ hq
end
section
variable {ls : List (Int × Int)} {t : Nt}
theorem wayN_head (T : PT ls t) (H : ∀ i, i ∈ t.L → t.A i = none → t.Hd i = i) : ∀ (f i : Nat), i ∈ t.L → t.L.idxOf i ≤ f → t.Hd i ∈ wayN t f i
  | 0, i, hi, hf => by
    cases e : t.A i with
    | none => rw [H i hi e]; exact List.mem_cons_self
    | some j => have := (T.step i j hi e).2.1; omega
  | f + 1, i, hi, hf => by
    unfold wayN
    cases e : t.A i with
    | none => rw [H i hi e]; exact List.mem_cons_self
    | some j =>
      obtain ⟨s1, s2, _, _, s5⟩ := T.step i j hi e
      rw [s5]
      exact List.mem_cons_of_mem _ (wayN_head T H f j s1 (by omega))
theorem way_head (T : PT ls t) {i : Nat} (hi : i ∈ t.L) : ((t.Hd i : Nat) : Int) ∈ wayI t i :=
  List.mem_map.mpr ⟨_, wayN_head T (fun i hi e => (T.root i hi e).1) _ i hi (Nat.le_refl _), rfl⟩
theorem wayN_len : ∀ (f i : Nat), (wayN t f i).length ≤ f + 1
  | 0, i => Nat.le_refl _
  | f + 1, i => by
    unfold wayN
    split
    · show 1 ≤ _; omega
    · rename_i j _
      rw [List.length_cons]
      have := wayN_len f j
      omega
theorem topI_mem {h th : List Int} {c : Int} (h1 : c ∈ h) (h2 : c ∈ th) : ∃ r, (h.filter fun x => decide (x ∈ th)) = topI h th :: r ∧ topI h th ∈ h ∧ topI h th ∈ th := by
  unfold topI
  cases e : h.filter fun x => decide (x ∈ th) with
  | nil =>
    have : c ∈ h.filter fun x => decide (x ∈ th) := List.mem_filter.mpr ⟨h1, decide_eq_true h2⟩
    rw [e] at this
    exact nomatch this
  | cons a r =>
    have : a ∈ h.filter fun x => decide (x ∈ th) := by rw [e]; exact List.mem_cons_self
    obtain ⟨m1, m2⟩ := List.mem_filter.mp this
    exact ⟨r, rfl, m1, of_decide_eq_true m2⟩
end
section
variable {C : Cl} {w : PWi} {P : PEnds} {M : Mm} {ls : List (Int × Int)} {d : D} {b1 b2 b3 : Addr} {a b : Nat} {x3 x4 x5 x6 x7 : Option Sv}
abbrev ρr (C : Cl) (d : D) (b1 b2 b3 : Addr) (a b : Nat) (x3 x4 x5 x6 x7 : Option Sv) : Rho := [some (.val (netD C d b1 b2 b3)), some (.val (.int (a : Int))), some (.val (.int (b : Int))), x3, x4, x5, x6, x7, none]
theorem ev_way {ρ : Rho} {po pi : PTE} {i : Nat} (hl : LkOk ls) (N : NS M b1 b2 b3 (netF ls)) (hi : i < ls.length) (ho : Ev po w ρ M (netD C d b1 b2 b3)) (ha : Ev pi w ρ M (.int (i : Int))) : Ev (dMeth C.Net "way" (sp_Net_way C) po (dCons pi dNil)) w ρ M (.lst ((wayI (netF ls) i).map .int)) := fun q hq =>
  meth_run ho ⟨rfl, by show ("way" : Str) ∉ (["n_looks", "n_signs", "n_heads", "n_ahead"] : List Str); decide⟩ (eva_cons ha eva_nil) ⟨b1, b2, b3, ls, d, netF ls, i, rfl, rfl, N, (net_ok ls).1, hl.2.1, (net_ok ls).2.2 i hi, by rw [wayI_D]; exact hq⟩
end
theorem meth0_run {w : PWi} {ρ : Rho} {M : Mm} {po : PTE} {sp : PSp} {K : Addr} {m : Str} {q : PQ} (k : po w ρ M fun d M1 => insOf K m d M1 ∧ sp [d] M1 q fun cls fs M3 => w cls fs ρ M3) : dMeth K m sp po dNil w ρ M q := k
theorem set_run {w : PWi} {P : PEnds} {ρ : Rho} {M : Mm} {pe : PTE} {i : Nat} (k : pe w ρ M fun d M' => P.nx (st ρ i (.val d)) M') : dSet i pe w P ρ M := k
theorem b1_runK {w : PWi} {ρ : Rho} {M : Mm} {pe : PTE} {f : F1} {q : PQ} (k : pe w ρ M fun d M' => f d fun z => q z M') : dB1 f pe w ρ M q := k
def ringD (ls : List (Int × Int)) : D := if isN (clsD ls) = true then oddD ls else clsD ls
theorem clsD_raw (ls : List (Int × Int)) : noRaw (clsD ls) = true := by unfold clsD; split <;> rfl
def fitN (ls : List (Int × Int)) : Int := if isN (ringD ls) = true then (if (clsL ls (netF ls).Hd).length = 0 then 1 else 2 ^ ((clsL ls (netF ls).Hd).length - 1)) else 0
def sp_fitting (C : Cl) : PSp := fun ds M q _ => ar1 ds fun d => ∃ ls, LkOk ls ∧ isLks d ls ∧ q (.int (fitN ls)) M
theorem ringD_raw (ls : List (Int × Int)) : noRaw (ringD ls) = true := by
  unfold ringD oddD
  split
  · split <;> rfl
  · exact clsD_raw ls
end Px
set_option Elab.async false
set_option linter.all false
set_option maxRecDepth 100000
namespace Px
open PySem PySem.Spec PyProof.Rows L2
section
variable {ls : List (Int × Int)}
theorem prsOf_mem {n : Nat} {p : Nat × Nat} : p ∈ prsOf n ↔ p.1 < p.2 ∧ p.2 < n := by
  unfold prsOf
  rw [List.mem_flatMap]
  constructor
  · rintro ⟨a, ha, h⟩
    obtain ⟨b, hb, rfl⟩ := List.mem_map.mp h
    exact ⟨List.mem_range.mp hb, List.mem_range.mp ha⟩
  · rintro ⟨h1, h2⟩
    exact ⟨p.2, List.mem_range.mpr h2, List.mem_map.mpr ⟨p.1, List.mem_range.mpr h1, rfl⟩⟩
theorem clh_symm (i j : Nat) : clh ls i j = clh ls j i := by unfold clh; rw [alk_symm, unl_symm]
theorem alk_self (i : Nat) : alk ls i i = true := by rw [alk_iff, Int.sub_self]; exact Int.dvd_zero _
theorem ring_ok (ls : List (Int × Int)) : isN (ringD ls) = true ↔ Ok ls (netF ls).S := by
  have T := net_tree ls
  have e1 : isN (clsD ls) = true ↔ ∀ p ∈ prsOf ls.length, clh ls p.1 p.2 = false := by
    unfold clsD clsF
    cases e : (prsOf ls.length).find? fun p => clh ls p.1 p.2 with
    | none =>
      refine ⟨fun _ p hp => ?_, fun _ => rfl⟩
      have := List.find?_eq_none.mp e p hp
      simpa using this
    | some p =>
      refine ⟨(fun h => nomatch h), fun h => ?_⟩
      have h1 := List.find?_some e
      rw [h p (List.mem_of_find?_eq_some e)] at h1
      cases h1
  have e2 : isN (oddD ls) = true ↔ ∀ p ∈ prsOf ls.length, oddP ls (netF ls) p = false := by
    unfold oddD oddF
    cases e : (prsOf ls.length).find? (oddP ls (netF ls)) with
    | none =>
      refine ⟨fun _ p hp => ?_, fun _ => rfl⟩
      have := List.find?_eq_none.mp e p hp
      simpa using this
    | some p =>
      refine ⟨(fun h => nomatch h), fun h => ?_⟩
      have h1 := List.find?_some e
      rw [h p (List.mem_of_find?_eq_some e)] at h1
      cases h1
  have odd : ∀ i j, i < ls.length → j < ls.length → jn ls i j = true → (oddP ls (netF ls) (i, j) = false ↔ (netF ls).S i * (netF ls).S j = sgn ls i j) := fun i j hi hj hn => by
    unfold oddP sgn
    rw [hn, Bool.true_and]
    rcases T.pm i ((T.all i).mpr hi) with a | a <;> rcases T.pm j ((T.all j).mpr hj) with b | b <;> rw [a, b] <;> cases alk ls i j <;> decide
  unfold ringD
  constructor
  · intro h
    by_cases c : isN (clsD ls) = true
    · rw [if_pos c] at h
      have h1 := e1.mp c
      have h2 := e2.mp h
      intro i j hi hj
      rcases Nat.lt_trichotomy i j with z | z | z
      · exact ⟨h1 (i, j) (prsOf_mem.mpr ⟨z, hj⟩), fun hn => (odd i j hi hj hn).mp (h2 (i, j) (prsOf_mem.mpr ⟨z, hj⟩))⟩
      · subst z
        refine ⟨by unfold clh; rw [alk_self]; rfl, fun _ => ?_⟩
        rw [pm_sq (T.pm i ((T.all i).mpr hi))]
        unfold sgn
        rw [if_pos (alk_self i)]
      · refine ⟨by rw [clh_symm]; exact h1 (j, i) (prsOf_mem.mpr ⟨z, hi⟩), fun hn => ?_⟩
        rw [Int.mul_comm, sgn_symm]
        rw [jn_symm] at hn
        exact (odd j i hj hi hn).mp (h2 (j, i) (prsOf_mem.mpr ⟨z, hi⟩))
    · rw [if_neg c] at h
      exact absurd h c
  · intro o
    have c : isN (clsD ls) = true := e1.mpr fun p hp => by
      obtain ⟨a, b⟩ := prsOf_mem.mp hp
      exact (o p.1 p.2 (by omega) b).1
    rw [if_pos c]
    refine e2.mpr fun p hp => ?_
    obtain ⟨a, b⟩ := prsOf_mem.mp hp
    by_cases hn : jn ls p.1 p.2 = true
    · exact (odd p.1 p.2 (by omega) b hn).mpr ((o p.1 p.2 (by omega) b).2 hn)
    · unfold oddP
      rw [show jn ls p.1 p.2 = false by simpa using hn]
      rfl
theorem fitN_is (h : LkOk ls) : fitN ls = (((zxs (roofL ls + 1).toNat).filter (fitZ ls)).length : Nat) := by
  have T := net_tree ls
  unfold fitN
  by_cases c : isN (ringD ls) = true
  · rw [if_pos c, T.count1 h.lk ((ring_ok ls).mp c)]
    split <;> simp
  · rw [if_neg c, T.count0 (fun o => c ((ring_ok ls).mpr o))]
    rfl
theorem near_self {h s : Int} (h0 : 0 < h) (s0 : 0 ≤ s) (s1 : s ≤ h) : near (2 * h) s = s := by
  unfold near
  have e : s % (2 * h) = s := Int.emod_eq_of_lt s0 (by omega)
  rw [e]
  split <;> omega
theorem near_fit {h s x : Int} (h0 : 0 < h) (s0 : 0 ≤ s) (s1 : s ≤ h) : near (2 * h) x = s ↔ 2 * h ∣ x - s ∨ 2 * h ∣ x + s := by
  have e := near_iff (s := 2 * h) (by omega) x s
  rw [near_self h0 s0 s1] at e
  rw [e, ← Int.dvd_iff_emod_eq_zero, ← Int.dvd_iff_emod_eq_zero]
theorem fold_one (h x : Int) : spd (near (2 * h * 1) x) 1 = .tup [.int (near (2 * h) x), .int 1] := by
  rw [Int.mul_one]
  unfold spd g0
  rw [Int.gcd_one_right]
  simp
theorem fitZ_near (k : LkOk ls) (x : Int) : fitZ ls x = ls.all fun p => decide (near (2 * p.1) x = p.2) := by
  rw [Bool.eq_iff_iff, fitZ_iff, List.all_eq_true]
  constructor
  · intro h p hp
    obtain ⟨i, hi, e⟩ := List.getElem_of_mem hp
    obtain ⟨⟨a, _⟩, b, c⟩ := k.2.2 p hp
    have := h i hi
    unfold fitI at this
    rw [(hL_at hi).1, (hL_at hi).2, e] at this
    exact decide_eq_true ((near_fit (by omega) b c).mpr this)
  · intro h i hi
    obtain ⟨⟨a, _⟩, b, c⟩ := k.okL hi
    have := of_decide_eq_true (h _ (List.getElem_mem hi))
    unfold fitI
    rw [(hL_at hi).1, (hL_at hi).2]
    exact (near_fit (by omega) b c).mp this
end
theorem fil9 (n : Int) : ∀ ls : List (Int × Int), eqD (.lst (ls.filterMap (fun p => if (!decide (near (2 * p.1) n = p.2)) = true then some (D.int p.1) else none))) (.lst []) = ls.all fun p => decide (near (2 * p.1) n = p.2)
  | [] => rfl
  | p :: r => by
    have ih := fil9 n r
    by_cases z : near (2 * p.1) n = p.2
    · simpa [z] using ih
    · simp [z]
      rfl
def sp__law_fit (C : Cl) : PSp := fun ds M q _ => ar2 ds fun d x => asI x fun n => ∃ ls, LkOk ls ∧ d = .lst (ls.map lkD) ∧ (0 ≤ n ∧ n ≤ 10 ^ 40) ∧ q (.bl (fitZ ls n)) M
def rd__law_fit (C : Cl) : PTS := (dRet (dOp fEq (dL (dComp [2, 3] (iA (dVar 0)) (gTp 2 (gsCons (gNm 2) (gsCons (gNm 3) gsNil))) (dTst (dOp fNe (dCall (sp__law_seen C) [] (dCons (dVar 2) (dCons (dTup (dCons (dVar 1) (dCons (dC (.int 1)) dNil))) dNil))) (dTup (dCons (dVar 3) (dCons (dC (.int 1)) dNil))))) (dVar 2))) (dL (dLst dNil))))
theorem sh__law_fit (C : Cl) : Shows (sp__law_fit C) 4 (rd__law_fit C) := by
  intro ds M q e h
  obtain ⟨d, x, rfl, h⟩ := ar2_of h
  obtain ⟨n, rfl, ls, hl, rfl, ⟨n0, n1⟩, hq⟩ := asI_of h
  have h6 := hl.2.1
  refine ⟨rfl, ?_⟩
  refine compR_fm (fun y => match y with | .tup [.int h, .int m] => if (!decide (near (2 * h) n = m)) = true then some (D.int h) else none | _ => none) (ls.map lkD) [] (fun y hy kt kf hk => ?_) (by rw [List.length_map]; show 0 + ls.length ≤ 1000000; omega) ?_
  · obtain ⟨p, hp, rfl⟩ := List.mem_map.mp hy
    obtain ⟨⟨a, a2⟩, b, c⟩ := hl.2.2 p hp
    have hk : match (if (!decide (near (2 * p.1) n = p.2)) = true then some (D.int p.1) else none) with | some y => kt y M | none => kf M := hk
    refine ⟨rfl, by show 2 ≤ 1000000; decide, ⟨by omega, by omega, by omega, by omega, by decide, by decide⟩, fun d hd => ?_⟩
    rw [fold_one] at hd
    subst hd
    refine ⟨by show 2 ≤ 1000000; decide, rfl, ?_⟩
    have e1 : (!eqD (.tup [.int (near (2 * p.1) n), .int 1]) (.tup [.int p.2, .int 1])) = !decide (near (2 * p.1) n = p.2) := by
      have : eqD (.tup [.int (near (2 * p.1) n), .int 1]) (.tup [.int p.2, .int 1]) = (decide (near (2 * p.1) n = p.2) && (decide ((1 : Int) = 1) && true)) := rfl
      rw [this]; simp
    show if (!eqD (.tup [.int (near (2 * p.1) n), .int 1]) (.tup [.int p.2, .int 1])) = true then _ else _
    rw [e1]
    by_cases z : (!decide (near (2 * p.1) n = p.2)) = true
    · rw [if_pos z] at hk ⊢
      exact hk
    · rw [if_neg z] at hk ⊢
      exact hk
  · rw [List.nil_append]
    have e2 : (ls.map lkD).filterMap (fun y => match y with | .tup [.int h, .int m] => if (!decide (near (2 * h) n = m)) = true then some (D.int h) else none | _ => none) = ls.filterMap (fun p => if (!decide (near (2 * p.1) n = p.2)) = true then some (D.int p.1) else none) := by
      rw [List.filterMap_map]; rfl
    rw [e2]
    refine ⟨by decide, ?_, ?_⟩
    · rw [Bool.and_eq_true]
      refine ⟨?_, rfl⟩
      show (List.filterMap _ ls).all (okD 49) = true
      rw [List.all_eq_true]
      intro z hz
      obtain ⟨p, _, hp⟩ := List.mem_filterMap.mp hz
      split at hp
      · cases hp; rfl
      · cases hp
    · have e3 : eqD (.lst (ls.filterMap (fun p => if (!decide (near (2 * p.1) n = p.2)) = true then some (D.int p.1) else none))) (.lst []) = fitZ ls n := by
        rw [fitZ_near hl]
        exact fil9 n ls
      rw [e3]
      exact ⟨M, MLe.refl M, hq⟩
end Px
set_option Elab.async false
set_option linter.all false
set_option maxRecDepth 100000
namespace Px
open PySem PySem.Spec PyProof.Rows L2
section
variable {α : Type} {E : α → α → Prop}
def Chn (E : α → α → Prop) : List α → Prop
  | [] => True
  | x :: r => (match r with
    | [] => True
    | y :: _ => E x y) ∧ Chn E r
theorem chn_pre : ∀ {a b : List α}, Chn E (a ++ b) → Chn E a
  | [], _, _ => trivial
  | [x], _, _ => ⟨trivial, trivial⟩
  | x :: y :: a, b, h => ⟨h.1, chn_pre (a := y :: a) (b := b) h.2⟩
theorem chn_app {t : α} {s : List α} (h2 : Chn E (t :: s)) : ∀ {a : List α}, Chn E (a ++ [t]) → Chn E (a ++ t :: s)
  | [], _ => h2
  | [x], h => ⟨h.1, h2⟩
  | x :: y :: a, h => ⟨h.1, chn_app h2 (a := y :: a) h.2⟩
theorem chn_rev (sy : ∀ x y, E x y → E y x) : ∀ {l : List α}, Chn E l → Chn E l.reverse
  | [], _ => trivial
  | [x], _ => ⟨trivial, trivial⟩
  | x :: y :: r, h => by
    have ih := chn_rev sy (l := y :: r) h.2
    have e : (x :: y :: r).reverse = r.reverse ++ (y :: [x]) := by simp
    rw [e]
    rw [List.reverse_cons] at ih
    exact chn_app (E := E) (t := y) (s := [x]) ⟨sy _ _ h.1, trivial, trivial⟩ ih
theorem chn_cons {x : α} : ∀ {l : List α}, (∀ y, l.head? = some y → E x y) → Chn E l → Chn E (x :: l)
  | [], _, _ => ⟨trivial, trivial⟩
  | y :: _, h, k => ⟨h y rfl, k⟩
theorem meet [DecidableEq α] {th : List α} {c : α} : ∀ {h : List α}, c ∈ h → c ∈ th → ∃ a t b, h = a ++ t :: b ∧ t ∈ th ∧ ∀ x ∈ a, x ∉ th
  | [], h1, _ => nomatch h1
  | x :: r, h1, h2 => by
    by_cases hx : x ∈ th
    · exact ⟨[], x, r, rfl, hx, fun _ h => nomatch h⟩
    · rcases List.mem_cons.mp h1 with rfl | h1
      · exact absurd h2 hx
      · obtain ⟨a, t, b, e, k1, k2⟩ := meet h1 h2
        exact ⟨x :: a, t, b, by rw [e]; rfl, k1, fun y hy => by
          rcases List.mem_cons.mp hy with rfl | hy
          · exact hx
          · exact k2 y hy⟩
end
theorem idx_cut {a : List Int} {t : Int} {b : List Int} (h : t ∉ a) : (a ++ t :: b).idxOf t = a.length := by
  rw [List.idxOf_append, if_neg h, List.idxOf_cons_self, Nat.zero_add]
theorem fil_cut {a : List Int} {t : Int} {b th : List Int} (h : ∀ x ∈ a, x ∉ th) (ht : t ∈ th) : ((a ++ t :: b).filter fun x => decide (x ∈ th)).head? = some t := by
  rw [List.filter_append, List.filter_eq_nil_iff.mpr (fun x hx => by simpa using h x hx), List.nil_append, List.filter_cons, if_pos (decide_eq_true ht)]
  rfl
theorem ringI_cut {h th : List Int} {c : Int} (h1 : c ∈ h) (h2 : c ∈ th) (nd : th.Nodup) : ∃ a t b c d, h = a ++ t :: b ∧ th = c ++ t :: d ∧ (∀ x ∈ a, x ∉ th) ∧ t ∉ c ∧ ringI h th = a ++ (c ++ [t]).reverse := by
  obtain ⟨a, t, b, e, k1, k2⟩ := meet h1 h2
  obtain ⟨c, d, e2⟩ := List.append_of_mem k1
  have ht : t ∉ c := fun hc => by
    rw [e2] at nd
    exact (List.nodup_append.mp nd).2.2 t hc t List.mem_cons_self rfl
  have ha : t ∉ a := fun hh => k2 t hh k1
  refine ⟨a, t, b, c, d, e, e2, k2, ht, ?_⟩
  have top : topI h th = t := by unfold topI; rw [e, fil_cut k2 k1]; rfl
  unfold ringI
  rw [top, e, idx_cut ha, e2, idx_cut ht, List.take_left, List.reverse_append]
  rw [show a ++ t :: b = (a ++ [t]) ++ b by rw [List.append_assoc]; rfl, List.take_left' (by rw [List.length_append]; rfl), List.append_assoc]
  rfl
section
variable {ls : List (Int × Int)} {t : Nt}
def Ed (ls : List (Int × Int)) (t : Nt) (x y : Int) : Prop := jn ls x.toNat y.toNat = true ∧ t.S x.toNat * t.S y.toNat = sgn ls x.toNat y.toNat
theorem Ed.symm (x y : Int) (h : Ed ls t x y) : Ed ls t y x := ⟨by rw [jn_symm]; exact h.1, by rw [Int.mul_comm, sgn_symm]; exact h.2⟩
theorem PT.tree_pm (T : PT ls t) (i : Nat) (hi : i ∈ t.L) (P : Tree ls t.S t.Hd t.A t.L) : t.S i * t.S i = 1 := pm_sq (P.pm i hi)
theorem wayN_chn (T : PT ls t) (P : Tree ls t.S t.Hd t.A t.L) : ∀ (f i : Nat), i ∈ t.L → Chn (Ed ls t) ((wayN t f i).map fun i : Nat => (i : Int)) ∧ ((wayN t f i).map fun i : Nat => (i : Int)).head? = some (i : Int) ∧ ((wayN t f i).map fun i : Nat => (i : Int)).Nodup
      ∧ ∀ x ∈ wayN t f i, x ∈ t.L ∧ t.L.idxOf x ≤ t.L.idxOf i
  | 0, i, hi => ⟨⟨trivial, trivial⟩, rfl, by simp [wayN], fun x hx => by
      rcases List.mem_cons.mp hx with rfl | hx
      · exact ⟨hi, Nat.le_refl _⟩
      · exact nomatch hx⟩
  | f + 1, i, hi => by
    unfold wayN
    cases e : t.A i with
    | none => exact ⟨⟨trivial, trivial⟩, rfl, by simp, fun x hx => by
        rcases List.mem_cons.mp hx with rfl | hx
        · exact ⟨hi, Nat.le_refl _⟩
        · exact nomatch hx⟩
    | some j =>
      obtain ⟨s1, s2, s3, s4, s5⟩ := T.step i j hi e
      obtain ⟨c1, c2, c3, c4⟩ := wayN_chn T P f j s1
      refine ⟨?_, rfl, ?_, ?_⟩
      · show Chn (Ed ls t) ((i : Int) :: (wayN t f j).map fun i : Nat => (i : Int))
        refine chn_cons (fun y hy => ?_) c1
        rw [c2] at hy
        have : y = (j : Int) := by injection hy with e2; exact e2.symm
        subst this
        refine ⟨?_, ?_⟩
        · show jn ls i j = true
          rw [jn_symm]; exact s3
        · show t.S i * t.S j = sgn ls i j
          rw [s4, sgn_symm i j, Int.mul_comm (t.S j), Int.mul_assoc, T.tree_pm j s1 P, Int.mul_one]
      · show ((i : Int) :: (wayN t f j).map fun i : Nat => (i : Int)).Nodup
        refine List.nodup_cons.mpr ⟨fun h => ?_, c3⟩
        obtain ⟨x, hx, ex⟩ := List.mem_map.mp h
        have ex2 : x = i := by omega
        rw [ex2] at hx
        have := (c4 i hx).2
        omega
      · intro x hx
        rcases List.mem_cons.mp hx with rfl | hx
        · exact ⟨hi, Nat.le_refl _⟩
        · have := c4 x hx
          exact ⟨this.1, by omega⟩
def cyc : Int → List Int → List (Int × Int)
  | _, [] => []
  | p, x :: r => (p, x) :: cyc x r
def lstI : Int → List Int → Int
  | x, [] => x
  | _, y :: r => lstI y r
def sgP (ls : List (Int × Int)) (p : Int × Int) : Int := sgn ls p.1.toNat p.2.toNat
def prd (ls : List (Int × Int)) : List (Int × Int) → Int
  | [] => 1
  | p :: r => sgP ls p * prd ls r
def unk (ls : List (Int × Int)) (p : Int × Int) : Bool := !alk ls p.1.toNat p.2.toNat
theorem prd_odd : ∀ l : List (Int × Int), prd ls l = if l.countP (unk ls) % 2 = 1 then -1 else 1
  | [] => rfl
  | p :: r => by
    show sgP ls p * prd ls r = _
    rw [prd_odd r, List.countP_cons]
    unfold sgP sgn unk
    cases e : alk ls p.1.toNat p.2.toNat with
    | true => simp
    | false =>
      rcases Nat.mod_two_eq_zero_or_one (List.countP (unk ls) r) with h | h
      · have h2 : (List.countP (unk ls) r + 1) % 2 = 1 := by omega
        unfold unk at h h2
        simp [h, h2]
      · have h2 : (List.countP (unk ls) r + 1) % 2 = 0 := by omega
        unfold unk at h h2
        simp [h, h2]
theorem cyc_chn : ∀ (x : Int) (r : List Int), (∀ y ∈ x :: r, t.S y.toNat * t.S y.toNat = 1) → Chn (Ed ls t) (x :: r) → (∀ p ∈ cyc x r, jn ls p.1.toNat p.2.toNat = true) ∧ prd ls (cyc x r) = t.S x.toNat * t.S (lstI x r).toNat
  | x, [], h, _ => ⟨fun _ hp => (nomatch hp), (h x List.mem_cons_self).symm⟩
  | x, y :: r, h, c => by
    obtain ⟨i1, i2⟩ := cyc_chn y r (fun z hz => h z (List.mem_cons_of_mem _ hz)) c.2
    have c1 : Ed ls t x y := c.1
    refine ⟨fun p hp => ?_, ?_⟩
    · rcases List.mem_cons.mp hp with rfl | hp
      · exact c1.1
      · exact i1 p hp
    · show sgP ls (x, y) * prd ls (cyc y r) = t.S x.toNat * t.S (lstI y r).toNat
      rw [i2]
      show sgn ls x.toNat y.toNat * _ = _
      rw [← c1.2, Int.mul_assoc, ← Int.mul_assoc (t.S y.toNat), h y (List.mem_cons_of_mem _ List.mem_cons_self), Int.one_mul]
theorem lstI_app : ∀ (x : Int) (r : List Int) (z : Int), lstI x (r ++ [z]) = z
  | _, [], _ => rfl
  | _, y :: r, z => lstI_app y r z
structure Rg (ls : List (Int × Int)) (r : List Int) : Prop where
  nd : r.Nodup
  rg : ∀ x ∈ r, 0 ≤ x ∧ x < ls.length
  big : 2 ≤ r.length
  two : ∀ x y, r = [x, y] → clh ls x.toNat y.toNat = true
  long : ∀ x s, r = x :: s → r.length ≠ 2 → (∀ p ∈ cyc (lstI x s) r, jn ls p.1.toNat p.2.toNat = true) ∧ (cyc (lstI x s) r).countP (unk ls) % 2 = 1
theorem last_of : ∀ (q : List Int) (z x : Int) (s : List Int), x :: s = q ++ [z] → lstI x s = z
  | [], z, x, s, e => by
    injection e with e1 e2
    subst e2; exact e1
  | y :: q, z, x, s, e => by
    injection e with e1 e2
    subst e2; exact lstI_app _ _ _
theorem rg_clash {p : Nat × Nat} (h : clsF ls = some p) : Rg ls [(p.1 : Int), (p.2 : Int)] := by
  unfold clsF at h
  have h1 := List.find?_some h
  have h2 := prsOf_mem.mp (List.mem_of_find?_eq_some h)
  exact ⟨by simp; omega, fun x hx => by
    rcases List.mem_cons.mp hx with rfl | hx
    · omega
    · rcases List.mem_cons.mp hx with rfl | hx
      · omega
      · exact (nomatch hx), Nat.le_refl _, fun x y e => by
    injection e with e1 e2
    injection e2 with e2 e3
    subst e1; subst e2
    exact h1, fun x s e hl => absurd rfl hl⟩
theorem rg_odd {p : Nat × Nat} (h : oddF ls = some p) : Rg ls (ringI (wayI (netF ls) p.1) (wayI (netF ls) p.2)) := by
  unfold oddF at h
  have h1 := List.find?_some h
  have h2 := prsOf_mem.mp (List.mem_of_find?_eq_some h)
  obtain ⟨b, a⟩ := p
  obtain ⟨T, K, al⟩ := net_ok ls
  have P := net_tree ls
  have hj : jn ls b a = true ∧ (alk ls b a != decide ((netF ls).S b = (netF ls).S a)) = true := by
    have : (jn ls b a && (alk ls b a != decide ((netF ls).S b = (netF ls).S a))) = true := h1
    rwa [Bool.and_eq_true] at this
  have h2 : b < a ∧ a < ls.length := h2
  have hb := al b (by omega)
  have ha := al a h2.2
  obtain ⟨c1, c2, c3, c4⟩ := wayN_chn T P _ b hb
  obtain ⟨d1, d2, d3, d4⟩ := wayN_chn T P _ a ha
  have hh := (K b hb a h2.2 hj.1).2
  have m1 := way_head T hb
  have m2 := way_head T ha
  rw [← hh] at m2
  obtain ⟨A, tp, B, C, D, e, e2, k2, ht, er⟩ := ringI_cut m1 m2 d3
  have e' : wayI (netF ls) b = (A ++ [tp]) ++ B := by rw [e, List.append_assoc]; rfl
  have e2' : wayI (netF ls) a = (C ++ [tp]) ++ D := by rw [e2, List.append_assoc]; rfl
  have f1 : Chn (Ed ls (netF ls)) (A ++ [tp]) := chn_pre (b := B) (by rw [← e']; exact c1)
  have f2 : Chn (Ed ls (netF ls)) (C ++ [tp]) := chn_pre (b := D) (by rw [← e2']; exact d1)
  have f3 : Chn (Ed ls (netF ls)) (tp :: C.reverse) := by
    have := chn_rev Ed.symm f2
    rwa [List.reverse_append] at this
  have er2 : ringI (wayI (netF ls) b) (wayI (netF ls) a) = A ++ tp :: C.reverse := by rw [er, List.reverse_append]; rfl
  have ch : Chn (Ed ls (netF ls)) (A ++ tp :: C.reverse) := chn_app f3 f1
  have hd : ∃ s, A ++ tp :: C.reverse = (b : Int) :: s := by
    have c2 : (wayI (netF ls) b).head? = some (b : Int) := c2
    rw [e] at c2
    cases A with
    | nil => injection c2 with c2; rw [c2]; exact ⟨_, rfl⟩
    | cons y A => injection c2 with c2; rw [c2]; exact ⟨_, rfl⟩
  obtain ⟨s, hs⟩ := hd
  have hl : ∃ q, A ++ tp :: C.reverse = q ++ [(a : Int)] := by
    have d2 : (wayI (netF ls) a).head? = some (a : Int) := d2
    rw [e2] at d2
    cases C with
    | nil => injection d2 with d2; rw [d2]; exact ⟨A, rfl⟩
    | cons y C => injection d2 with d2; rw [d2]; exact ⟨A ++ tp :: C.reverse, by rw [List.reverse_cons, List.append_assoc]; rfl⟩
  obtain ⟨q, hq⟩ := hl
  have la : lstI (b : Int) s = a := last_of q a b s (by rw [← hs, hq])
  have mem : ∀ x ∈ A ++ tp :: C.reverse, ∃ i : Nat, x = (i : Int) ∧ i ∈ (netF ls).L := by
    intro x hx
    have : x ∈ wayI (netF ls) b ∨ x ∈ wayI (netF ls) a := by
      rw [e, e2]
      rcases List.mem_append.mp hx with hx | hx
      · exact .inl (List.mem_append_left _ hx)
      · rcases List.mem_cons.mp hx with rfl | hx
        · exact .inl (List.mem_append_right _ List.mem_cons_self)
        · exact .inr (List.mem_append_left _ (List.mem_reverse.mp hx))
    rcases this with h | h
    · obtain ⟨i, hi, rfl⟩ := List.mem_map.mp h
      exact ⟨i, rfl, (c4 i hi).1⟩
    · obtain ⟨i, hi, rfl⟩ := List.mem_map.mp h
      exact ⟨i, rfl, (d4 i hi).1⟩
  have sq : ∀ y ∈ A ++ tp :: C.reverse, (netF ls).S y.toNat * (netF ls).S y.toNat = 1 := fun y hy => by
    obtain ⟨i, rfl, hi⟩ := mem y hy
    exact pm_sq (P.pm i hi)
  have nd : (A ++ tp :: C.reverse).Nodup := by
    have n1 : (wayI (netF ls) b).Nodup := c3
    have n2 : (wayI (netF ls) a).Nodup := d3
    rw [e'] at n1
    rw [e2'] at n2
    have n3 := (List.nodup_append.mp (List.nodup_append.mp n1).1)
    have n4 := (List.nodup_append.mp (List.nodup_append.mp n2).1)
    refine List.nodup_append.mpr ⟨n3.1, List.nodup_cons.mpr ⟨fun h => ht (List.mem_reverse.mp h), ((List.reverse_perm C).nodup_iff.mpr n4.1)⟩, fun x hx y hy => ?_⟩
    rintro rfl
    rcases List.mem_cons.mp hy with rfl | hy
    · exact k2 _ hx (by rw [e2]; exact List.mem_append_right _ List.mem_cons_self)
    · exact k2 _ hx (by rw [e2]; exact List.mem_append_left _ (List.mem_reverse.mp hy))
  have opp : sgn ls a b = -((netF ls).S b * (netF ls).S a) := by
    rw [sgn_symm]
    have hx := hj.2
    unfold sgn
    rcases P.pm b hb with u | u <;> rcases P.pm a ha with v | v <;> rw [u, v] at hx ⊢ <;> cases z : alk ls b a <;> rw [z] at hx <;> first | rfl | (simp at hx)
  rw [er2]
  rw [hs] at nd mem sq ch ⊢
  have len3 : s.length ≠ 0 ∧ s.length ≠ 1 := by
    refine ⟨fun z => ?_, fun z => ?_⟩
    · have := List.eq_nil_of_length_eq_zero z
      subst this
      have : (b : Int) = a := la
      omega
    · obtain ⟨y, rfl⟩ := List.length_eq_one_iff.mp z
      have la : y = (a : Int) := la
      subst la
      have c : (netF ls).S b * (netF ls).S a = sgn ls b a := ch.1.2
      rw [sgn_symm, opp] at c
      have := P.pm b hb
      have := P.pm a ha
      rcases P.pm b hb with u | u <;> rcases P.pm a ha with v | v <;> rw [u, v] at c <;> simp at c
  refine ⟨nd, fun x hx => ?_, ?_, fun x y ex => ?_, fun x s' ex hn => ?_⟩
  · obtain ⟨i, rfl, hi⟩ := mem x hx
    have := T.lt i hi
    omega
  · rw [List.length_cons]; omega
  · have := congrArg List.length ex
    simp at this
    omega
  · injection ex with e1 e2
    subst e1; subst e2
    rw [la]
    obtain ⟨j1, j2⟩ := cyc_chn (b : Int) s sq ch
    refine ⟨fun p hp => ?_, ?_⟩
    · have hp : p ∈ ((a : Int), (b : Int)) :: cyc b s := hp
      rcases List.mem_cons.mp hp with rfl | hp
      · show jn ls a b = true
        rw [jn_symm]; exact hj.1
      · exact j1 p hp
    · have w := prd_odd (ls := ls) (cyc (a : Int) ((b : Int) :: s))
      have w2 : prd ls (cyc (a : Int) ((b : Int) :: s)) = -1 := by
        show sgn ls a b * prd ls (cyc b s) = -1
        rw [j2, la, opp]
        show -((netF ls).S b * (netF ls).S a) * ((netF ls).S b * (netF ls).S a) = -1
        rcases P.pm b hb with u | u <;> rcases P.pm a ha with v | v <;> rw [u, v] <;> rfl
      rw [w2] at w
      by_cases c : (cyc (a : Int) ((b : Int) :: s)).countP (unk ls) % 2 = 1
      · exact c
      · rw [if_neg c] at w; cases w
theorem ringD_rg (h : isN (ringD ls) = false) : ∃ r, ringD ls = .lst (r.map .int) ∧ Rg ls r := by
  unfold ringD at *
  by_cases c : isN (clsD ls) = true
  · rw [if_pos c] at h ⊢
    unfold oddD at *
    cases e : oddF ls with
    | none => rw [e] at h; cases h
    | some p => exact ⟨_, rfl, rg_odd e⟩
  · rw [if_neg c] at h ⊢
    unfold clsD at *
    cases e : clsF ls with
    | none => rw [e] at h; cases h
    | some p => exact ⟨[(p.1 : Int), (p.2 : Int)], rfl, rg_clash e⟩
end
end Px
set_option Elab.async false
set_option linter.all false
set_option maxRecDepth 100000
namespace PySem
open Sem (wp)
section
variable {prog : Program} {w : World} {K : Type} [DecidableEq K] {knd : KeyKind prog w K} {A : Around} {E : Value → Shared → Prop} {s : Shared}
end
end PySem
set_option Elab.async false
set_option linter.all false
set_option maxRecDepth 100000
namespace PySem
open Sem (wp)
section
variable {prog : Program} {w : World} {A : Around} {E : Value → Shared → Prop} {s : Shared}
end
end PySem
namespace Px
open PySem PySem.Spec PyProof.Rows L2
end Px
set_option Elab.async false
set_option linter.all false
set_option maxRecDepth 100000
namespace Px
open PySem PySem.Spec PyProof.Rows L2
section
variable {X : Cx} {W : WX} {a b c e : Expr} {pa pb pc : PTE} {pos p apos cpos : Pos}
end
end Px
set_option Elab.async false
set_option linter.all false
set_option maxRecDepth 100000
namespace Px
open PySem PySem.Spec PyProof.Rows L2
section
variable {X : Cx} {W : WX} {elt tg iter tg1 iter1 : Expr} {ifs ifs1 : List Expr} {scope : Scope} {own : List (Str × Nat)} {pos : Pos} {pl pl1 : PTA} {gd gd1 : PTG} {tt tt1 : PTT} {te : PTE} {is is1 vs vs1 : List Nat}
end
end Px
set_option Elab.async false
set_option linter.all false
set_option maxRecDepth 100000
namespace Px
open PySem PySem.Spec PyProof.Rows L2
def fCntS : F2 := fun x y k => ∃ (ss : List Str) (b : Str), x = .lst (ss.map .str) ∧ y = .str b ∧ ss.length ≤ 1000 ∧ (∀ s ∈ ss, PyData.strOk s = true) ∧ PyData.strOk b = true ∧ k (.int ((ss.count b : Nat) : Int))
theorem strs_py : ∀ ss : List Str, toPyL (ss.map D.str) = ss.map PyData.str
  | [] => rfl
  | b :: r => by show PyData.str b :: toPyL (r.map D.str) = _; rw [strs_py r]; rfl
theorem strs_plain : ∀ ss : List Str, PyData.plainAll (ss.map PyData.str) = true
  | [] => rfl
  | b :: r => by show (true && PyData.plainAll (r.map PyData.str)) = true; rw [strs_plain r]; rfl
theorem strs_count (b : Str) (ss : List Str) : (ss.map PyData.str).countP (fun y => PyData.eqv y (.str b)) = ss.count b := by
  rw [List.countP_map]
  unfold List.count
  refine List.countP_congr fun x _ => ?_
  show decide (x = b) = true ↔ (x == b) = true
  rw [decide_eq_true_eq, beq_iff_eq]
section
variable {X : Cx} {W : WX} {o e : Expr} {po pe : PTE} {apos cpos : Pos}
theorem de_cntS (hu : X.A.units + 65 < cLine) (ho : DO X W o po) (he : DO X W e pe) (hbase : attributeBase o "count" X.env (eval o X.env) = eval o X.env := by rfl)
    (hfew : ((backTo cpos (starEach [e] X.env)).all (fun x => !x.1) && (backToKw cpos (keywordEach [] X.env)).all (fun x => x.1.isSome)
      && decide ([e].length + ([] : List Keyword).length + (if ([] : List Keyword).isEmpty then 0 else 1) < 30)) = true := by rfl)
    (hline : (apos.endLine == cpos.line) = true := by rfl) (hs : starEach [e] X.env = (false, eval e X.env) :: starEach [] X.env := by rfl) (hplain : (backTo cpos (starEach [] X.env)).any (·.1) = false := by rfl) :
    DE X W (.Call (.Attribute o "count" apos) [e] [] cpos) (dMtL fCntS po pe) :=
  pe_imp (pe_bm PySem.F.plainAttrs_list PySem.F.slot_list_count PySem.F.type_list_count (mt_countD hu) ho (pa_cons he pa_nil hs) hbase hfew hline hs hplain) fun σ H Q h => mtl_run (by
    intro g σ H ρ M F O x y v u k Q A rx ry hh c
    obtain ⟨ss, b, rfl, rfl, hl, h1, h2, hk⟩ := hh
    obtain ⟨a, xs, rfl, g1, g2⟩ := rx.lst A
    have ok : okP 2 (.lst (ss.map D.str)) := fun d hd => by
      obtain ⟨s, hs, rfl⟩ := List.mem_map.mp hd
      exact h1 s hs
    have dp := vw_dp A ok rx
    have e3 : toPy (.lst (ss.map D.str)) = .list (ss.map PyData.str) := congrArg PyData.list (strs_py ss)
    rw [e3] at dp
    have hy := vw_dp A (show okP 0 (.str b) from h2) ry
    have s1 := shaped_ok (show okP 1 (.str b) from h2) (by decide)
    refine ⟨a, u, .str b, ss.map PyData.str, rfl, rfl, dp, hy, ?_, s1, strs_plain ss, rfl, ?_⟩
    · have := shaped_ok ok (by decide)
      rw [e3] at this
      exact this
    · rw [strs_count]
      exact c (.int ((ss.count b : Nat) : Int)) _ H F O A (Same.refl F) rfl hk) h
end
end Px
set_option Elab.async false
set_option linter.all false
set_option maxRecDepth 100000
namespace Px
open PySem PySem.Spec PyProof.Rows L2
section
variable {X : Cx} {W : WX} {a : Expr} {pa : PTE} {p p2 q pos : Pos}
end
end Px
set_option Elab.async false
set_option linter.all false
set_option maxRecDepth 100000
namespace Px
open PySem PySem.Spec PyProof.Rows L2
def lcp (a b : Int) : Int := lcmL [a, b]
theorem lcp_ok {a b : Int} (ha : 0 < a) (hb : 0 < b) : 0 < lcp a b ∧ ∀ m, lcp a b ∣ m ↔ a ∣ m ∧ b ∣ m := by
  obtain ⟨h1, h2⟩ := fold_lc [a, b] 1 (by decide) (fun n hn => by
    rcases List.mem_cons.mp hn with rfl | hn
    · exact ha
    · rcases List.mem_cons.mp hn with rfl | hn
      · exact hb
      · exact nomatch hn)
  refine ⟨h1, fun m => ?_⟩
  have hm := h2 m
  refine ⟨fun z => ?_, fun z => hm.mpr ⟨Int.one_dvd m, fun n hn => ?_⟩⟩
  · have := (hm.mp z).2
    exact ⟨this a List.mem_cons_self, this b (List.mem_cons_of_mem _ List.mem_cons_self)⟩
  · rcases List.mem_cons.mp hn with rfl | hn
    · exact z.1
    · rcases List.mem_cons.mp hn with rfl | hn
      · exact z.2
      · exact nomatch hn
theorem LkOk.sm {ls : List (Int × Int)} (hl : LkOk ls) : SmOk (ls.map fun p => p.1) := ⟨by rw [List.length_map]; exact hl.2.1, fun n hn => by
  obtain ⟨p, hp, rfl⟩ := List.mem_map.mp hn
  exact (hl.2.2 p hp).1⟩
end Px
set_option Elab.async false
set_option linter.all false
set_option maxRecDepth 100000
namespace Px
open PySem PySem.Spec PyProof.Rows L2
section
variable {X : Cx} {W : WX} {a : Expr} {pa : PTE} {p p2 pos pos2 : Pos}
def rLenSet (w : World) : List V → Hp → VK → Prop := fun vs H Q => ∃ (a : Addr) (S : Int → Bool) (n : Nat), vs = [V.ref a] ∧ H a = some (SetO w a S n) ∧ n ≤ 100000 ∧ ∀ ms : List Int, ms.Nodup → (∀ k, k ∈ ms ↔ S k = true) → ms.length = n → Q (.int (n : Nat)) H
theorem cr_lenSet : CallR X (.builtin "len") (rLenSet X.w) := by
  intro pins s σ H xs us Q I r h
  obtain ⟨a, S, n, rfl, hH, hn, q⟩ := h
  rw [Vals.ref1 r]
  obtain ⟨o, es, ep, t, ho, hx, hd, _, hk, hS, _, hf, hs, _⟩ := setO_get I hH
  have hn2 : ((es.size : Nat) : Int) < 2 ^ 63 := by rw [hs]; omega
  refine call_len_set ho hx hd hf hn2 ?_
  rw [hs]
  exact ⟨.int (n : Nat), H, I.tok _, ⟨_, rfl⟩, q _ hk (fun k => (hS k).symm) (by rw [List.length_map, Array.length_toList, hs])⟩
def dLenSetX (pe : PTE) : PTE := fun w ρ M q => pe w ρ M fun d M1 => ∃ ns : List Int, (d = .lst (ns.map .int) ∨ d = .tup (ns.map .int)) ∧ ns.length ≤ 1000 ∧ ∀ ms : List Int, ms.Nodup → (∀ k, k ∈ ms ↔ k ∈ ns) → q (.int ((ms.length : Nat) : Int)) M1
theorem de_lenSetX (hc : X.calm = true) (hg : Gl X "len") (hm : X.mg "len" = none) (hgs : Gl X "set") (hms : X.mg "set" = none) (ha : DO X W a pa)
    (he : starEach [a] X.env = (false, eval a X.env) :: starEach [] X.env := by rfl) (hpl : (backTo pos (starEach [] X.env)).any (·.1) = false := by rfl)
    (he2 : starEach [Expr.Call (.Name "set" p) [a] [] pos] X.env = (false, eval (.Call (.Name "set" p) [a] [] pos) X.env) :: starEach [] X.env := by rfl) (hpl2 : (backTo pos2 (starEach [] X.env)).any (·.1) = false := by rfl) :
    DE X W (.Call (.Name "len" p2) [.Call (.Name "set" p) [a] [] pos] [] pos2) (dLenSetX pa) :=
  pe_imp (pe_callB cr_lenSet hg hm (by decide +kernel) (pa_cons (pe_callTy (cr_setI hc) hgs hms (by decide +kernel) (pa_cons ha pa_nil he) (by decide) (by decide) he hpl) pa_nil he2) (by decide) (by decide) he2 hpl2) fun σ H Q ⟨g, ρ, M, F, O, q, w, A, pr, hw, k⟩ => by
    refine ⟨g, ρ, M, F, O, _, w, A, pr, hw, fun v H1 F1 O1 M1 d A1 s1 r1 q1 => ?_⟩
    obtain ⟨ns, hd, hl, q1⟩ := q1
    obtain ⟨pp, e1, hs⟩ : ∃ pp, v = V.ref pp ∧ (SqL X.K H1 pp (ns.map V.int) ∨ SqT X.K H1 pp (ns.map V.int)) := by
      rcases hd with rfl | rfl
      · obtain ⟨pp, xs, e1, h1, rl⟩ := r1.lst A1
        have ex := rpl_ints rl
        subst ex
        exact ⟨pp, e1, .inl (.inl (.inl h1))⟩
      · obtain ⟨pp, xs, e1, h1, rl⟩ := r1.tup A1
        have ex := rpl_ints rl
        subst ex
        exact ⟨pp, e1, .inr h1⟩
    refine ⟨pp, ns, by rw [e1], hs, by omega, fun D c hD hcn => ?_⟩
    have A2 := A1.laid (o := SetO X.w D (fun j => decide (j ∈ ns)) c) hD
    refine ⟨D, _, c, rfl, upd_same, by omega, fun ms h2 h3 h4 => ?_⟩
    have q3 := q1 ms h2 (fun j => (h3 j).trans decide_eq_true_iff)
    rw [h4] at q3
    exact k (.int (c : Nat)) _ F1 O1 M1 (.int (c : Nat)) A2 s1 rfl q3
end
end Px
set_option Elab.async false
set_option linter.all false
set_option maxRecDepth 100000
namespace Px
open PySem PySem.Spec PyProof.Rows L2
theorem rngZ' (n : Nat) : rngD 0 n = (List.range n).map fun k : Nat => D.int (k : Int) := by
  unfold rngD
  refine List.map_congr_left fun i _ => ?_
  show D.int (0 + (i : Int)) = D.int i
  rw [Int.zero_add]
theorem atI_lastP {l : List D} {x : D} (h : l.getLast? = some x) : atI l (-1) = some x := by
  have hn : l ≠ [] := fun z => by rw [z] at h; cases h
  have hp := List.length_pos_iff.mpr hn
  rw [List.getLast?_eq_getElem?] at h
  have e : ixN l.length (-1) = some (l.length - 1) := by
    unfold ixN
    rw [if_neg (by decide), if_pos (by omega)]
    congr 1
    omega
  show (ixN l.length (-1)).bind (fun k => l[k]?) = _
  rw [e]; exact h
theorem cyc_map : ∀ (p : Int) (l : List Int), cyc p l = (List.range l.length).map fun k => ((p :: l).getD k 0, l.getD k 0)
  | _, [] => rfl
  | p, x :: r => by
    show (p, x) :: cyc x r = (List.range (r.length + 1)).map _
    rw [List.range_succ_eq_map, List.map_cons, List.map_map, cyc_map x r]
    rfl
theorem lstI_last : ∀ (x : Int) (s : List Int), (x :: s).getLast? = some (lstI x s)
  | _, [] => rfl
  | x, y :: s => by
    rw [List.getLast?_cons_cons]
    exact lstI_last y s
def wdI (ls : List (Int × Int)) (p : Int × Int) : Str := bnd ls p.1.toNat p.2.toNat
theorem wdI_ok (ls : List (Int × Int)) (p : Int × Int) : PyData.strOk (wdI ls p) = true := by
  unfold wdI bnd
  cases alk ls p.1.toNat p.2.toNat <;> cases unl ls p.1.toNat p.2.toNat <;> decide +kernel
theorem wdI_un (ls : List (Int × Int)) (p : Int × Int) (h : jn ls p.1.toNat p.2.toNat = true) : (wdI ls p == ("unlike" : Str)) = unk ls p := by
  unfold wdI bnd unk
  unfold jn at h
  revert h
  cases alk ls p.1.toNat p.2.toNat <;> cases unl ls p.1.toNat p.2.toNat <;> decide +kernel
theorem cnt_un {ls : List (Int × Int)} : ∀ {l : List (Int × Int)}, (∀ p ∈ l, jn ls p.1.toNat p.2.toNat = true) → (l.map (wdI ls)).count ("unlike" : Str) = l.countP (unk ls) := by
  intro l h
  rw [List.count_eq_countP, List.countP_map]
  refine List.countP_congr fun p hp => ?_
  show (wdI ls p == ("unlike" : Str)) = true ↔ _
  rw [wdI_un ls p (h p hp)]
theorem in_un {ls : List (Int × Int)} (p : Int × Int) : inV (.str (wdI ls p)) [V.str "alike", V.str "unlike"] = jn ls p.1.toNat p.2.toNat := (jn_bnd ls _ _).1
def sqB : D → Bool
  | .lst _ => true
  | .tup _ => true
  | _ => false
def intD : D → Int
  | .int i => i
  | _ => 0
def rgN (ls : List (Int × Int)) (ns : List Int) : Bool := decide (2 ≤ ns.length) && (decide ns.Nodup && (if ns.length = 2 then clh ls (ns.getD 0 0).toNat (ns.getD 1 0).toNat else
  (cyc (lstI (ns.headD 0) ns.tail) ns).all (fun p => jn ls p.1.toNat p.2.toNat) && decide ((cyc (lstI (ns.headD 0) ns.tail) ns).countP (unk ls) % 2 = 1)))
def ringB (ls : List (Int × Int)) (t : D) : Bool := sqB t && ((itK t).all (fun d => btwD d 0 ((ls.length : Nat) - 1 : Int)) && rgN ls ((itK t).map intD))
def sp_is_ringX (C : Cl) : PSp := fun ds M q _ => ar2 ds fun d t => ∃ ls, LkOk ls ∧ isLks d ls ∧ okK t ∧ q (.bl (ringB ls t)) M
def rd_is_ring (C : Cl) : PTS := (dSeq (dDrop (dCall (sp_need_looks C) [] (dCons (dVar 0) dNil)))
    (dSeq (dIfS (dOr (dNot (dTst (dB1 (fIsi2 "list" "tuple") (dVar 1)))) (dNot (dTst (dB1 fAll (dL (dComp [3] (iA (dVar 1)) (gNm 3) dYes (dCall (sp_is_between C) [] (dCons (dVar 3) (dCons (dC (.int 0)) (dCons (dOp fSub (dB1 fLen (dVar 0)) (dC (.int 1))) dNil)))))))))) (dRet (dC (.bl false))) dNext)
    (dSeq (dIfS (dOr (dTst (dOp fLt (dB1 fLen (dVar 1)) (dC (.int 2)))) (dTst (dOp fNe (dLenSetX (dVar 1)) (dB1 fLen (dVar 1))))) (dRet (dC (.bl false))) dNext)
    (dSeq (dIfS (dTst (dOp fEq (dB1 fLen (dVar 1)) (dC (.int 2)))) (dRet (dOp fEq (dCall (sp_bond C) [] (dCons (dOp fIx (dVar 0) (dOp fIx (dVar 1) (dC (.int 0)))) (dCons (dOp fIx (dVar 0) (dOp fIx (dVar 1) (dC (.int 1)))) dNil))) (dC (.str "clash")))) dNext)
    (dSeq (dSet 2 (dL (dComp [4] (iR1 (dB1 fLen (dVar 1))) (gNm 4) dYes (dCall (sp_bond C) [] (dCons (dOp fIx (dVar 0) (dOp fIx (dVar 1) (dOp fSub (dVar 4) (dC (.int 1))))) (dCons (dOp fIx (dVar 0) (dOp fIx (dVar 1) (dVar 4))) dNil))))))
    (dRet (dAndV (dB1 fAll (dL (dComp [5] (iA (dVar 2)) (gNm 5) dYes (dOp (fInF false) (dVar 5) (dTup (dCons (dC (.str "alike")) (dCons (dC (.str "unlike")) dNil))))))) (dOp fEq (dOp fMod (dMtL fCntS (dVar 2) (dC (.str "unlike"))) (dC (.int 2))) (dC (.int 1))))))))))
section
variable {C : Cl} {w : PWi} {ρ : Rho} {M : Mm} {pa pb pc pd : PTE} {ls : List (Int × Int)} {d : D} {x y : Int}
theorem ev_bondI (h : LkOk ls) (hd : isLks d ls) (hx : 0 ≤ x ∧ x < ls.length) (hy : 0 ≤ y ∧ y < ls.length) (ha : Ev pa w ρ M d) (hb : Ev pb w ρ M (.int x)) (hc : Ev pc w ρ M (.int y)) :
    Ev (dCall (sp_bond C) [] (dCons (dOp fIx pa pb) (dCons (dOp fIx pa pc) dNil))) w ρ M (.str (wdI ls (x, y))) := by
  have ex : (x.toNat : Int) = x := by omega
  have ey : (y.toNat : Int) = y := by omega
  exact ev_bond h (i := x.toNat) (j := y.toNat) (by omega) (by omega) (ev_at hd (by omega) ha (by rw [ex]; exact hb)) (ev_at hd (by omega) ha (by rw [ey]; exact hc))
end
theorem getD_mem {l : List Int} {k : Nat} (h : k < l.length) : l.getD k 0 ∈ l := by
  rw [List.getD_eq_getElem?_getD, List.getElem?_eq_getElem h]
  exact List.getElem_mem h
theorem atI_get {l : List Int} {k : Nat} (h : k < l.length) : atI (l.map D.int) (k : Int) = some (.int (l.getD k 0)) := atI_nat (by
  rw [List.getElem?_map, List.getD_eq_getElem?_getD, List.getElem?_eq_getElem h]; rfl)
theorem atI_pre {x : Int} {s : List Int} {k : Nat} (h : k < (x :: s).length) : atI ((x :: s).map D.int) ((k : Int) - 1) = some (.int ((lstI x s :: x :: s).getD k 0)) ∧ (lstI x s :: x :: s).getD k 0 ∈ x :: s := by
  cases k with
  | zero =>
    have hl := lstI_last x s
    refine ⟨?_, List.mem_of_getLast? hl⟩
    show atI ((x :: s).map D.int) (-1) = some (.int (lstI x s))
    refine atI_lastP ?_
    rw [List.getLast?_map, hl]; rfl
  | succ k =>
    have e : ((k + 1 : Nat) : Int) - 1 = (k : Int) := by omega
    rw [e]
    exact ⟨atI_get (by omega), getD_mem (l := x :: s) (by omega)⟩
theorem nodup_lt : ∀ {ns ms : List Int}, ms.Nodup → (∀ k ∈ ms, k ∈ ns) → ¬ ns.Nodup → ms.length < ns.length
  | [], ms, _, _, h => absurd List.nodup_nil h
  | x :: r, ms, hm, hs, h => by
    rw [List.length_cons]
    by_cases c : x ∈ r
    · have := nodup_lenG (ms := ms) (ns := r) hm fun k hk => by
        rcases List.mem_cons.mp (hs k hk) with rfl | z
        · exact c
        · exact z
      omega
    · have hr : ¬ r.Nodup := fun z => h (List.nodup_cons.mpr ⟨c, z⟩)
      have h2 := nodup_lt (ns := r) (ms := ms.erase x) (hm.erase x) (fun k hk => by
        have h3 := List.mem_of_mem_erase hk
        rcases List.mem_cons.mp (hs k h3) with rfl | z
        · exact absurd hk (List.Nodup.not_mem_erase hm)
        · exact z) hr
      by_cases cm : x ∈ ms
      · rw [List.length_erase_of_mem cm] at h2; omega
      · rw [List.erase_of_not_mem cm] at h2; omega
theorem len_nd {ns ms : List Int} (hm : ms.Nodup) (hs : ∀ k, k ∈ ms ↔ k ∈ ns) : decide (ms.length = ns.length) = decide ns.Nodup := by
  refine decide_eq_decide.mpr ⟨fun h => ?_, fun h => ?_⟩
  · refine Decidable.byContradiction fun z => ?_
    have := nodup_lt hm (fun k hk => (hs k).mp hk) z
    omega
  · exact Nat.le_antisymm (nodup_lenG hm fun k hk => (hs k).mp hk) (nodup_lenG h fun k hk => (hs k).mpr hk)
theorem btw_all {lo hi : Int} : ∀ {l : List D}, l.all (fun d => btwD d lo hi) = true → l = (l.map intD).map .int ∧ ∀ x ∈ l.map intD, lo ≤ x ∧ x ≤ hi
  | [], _ => ⟨rfl, fun x hx => nomatch hx⟩
  | d :: l, h => by
    rw [List.all_cons, Bool.and_eq_true] at h
    obtain ⟨e, b⟩ := btw_all h.2
    cases d with
    | int i =>
      have hi2 : (decide (lo ≤ i) && decide (i ≤ hi)) = true := h.1
      rw [Bool.and_eq_true, decide_eq_true_iff, decide_eq_true_iff] at hi2
      refine ⟨?_, fun x hx => ?_⟩
      · show D.int i :: l = D.int i :: (l.map intD).map .int
        rw [← e]
      · rcases List.mem_cons.mp hx with rfl | hx
        · exact hi2
        · exact b x hx
    | _ => cases h.1
theorem o1_isi {t : D} (h : okK t) : Op1 (fIsi2 "list" "tuple") t (.bl (sqB t)) := fun κ hκ => by
  have hp := h.1
  cases t with
  | _ => first | exact hκ | (exfalso; revert hp; simp [plain, tyD, nScr]; done)
theorem sq_cases {t : D} (h : sqB t = true) : t = .lst (itK t) ∨ t = .tup (itK t) := by
  cases t with
  | lst l => exact .inl rfl
  | tup l => exact .inr rfl
  | _ => cases h
theorem iA_sq {w : PWi} {ρ : Rho} {M : Mm} {i : Nat} {t : D} {l : List D} {κ : List D → Mm → Prop} (hd : t = .lst l ∨ t = .tup l) (h : gt ρ i = some (.val t)) (hκ : κ l M) : iA (dVar i) w ρ M κ := by
  rcases hd with rfl | rfl <;> exact ev_var h _ hκ
theorem o1_lenQ {t : D} {l : List D} (hd : t = .lst l ∨ t = .tup l) : Op1 fLen t (.int (l.length : Nat)) := by
  rcases hd with rfl | rfl
  · exact o1_lenL
  · exact o1_lenT
theorem o2_ixQ {t : D} {l : List D} {i : Int} {d : D} (hd : t = .lst l ∨ t = .tup l) (h : atI l i = some d) : Op2 fIx t (.int i) d := by
  rcases hd with rfl | rfl
  · exact o2_ixL h
  · exact o2_ixT h
theorem lenSetX_run {w : PWi} {ρ : Rho} {M : Mm} {i : Nat} {t : D} {ns : List Int} {q : PQ} (ht : t = .lst (ns.map .int) ∨ t = .tup (ns.map .int)) (hg : gt ρ i = some (.val t)) (hl : ns.length ≤ 1000) (k : ∀ ms : List Int, ms.Nodup → (∀ k, k ∈ ms ↔ k ∈ ns) → q (.int (ms.length : Nat)) M) : dLenSetX (dVar i) w ρ M q := ev_var hg _ ⟨ns, ht, hl, k⟩
theorem evt_nds {w : PWi} {ρ : Rho} {M : Mm} {i : Nat} {t : D} {ns : List Int} {pb : PTE} (ht : t = .lst (ns.map .int) ∨ t = .tup (ns.map .int)) (hg : gt ρ i = some (.val t)) (hl : ns.length ≤ 1000) (el : Ev pb w ρ M (.int (ns.length : Nat))) : EvT (dTst (dOp fNe (dLenSetX (dVar i)) pb)) w ρ M (!decide ns.Nodup) := fun q hq => by
  unfold dTst dOp
  refine lenSetX_run ht hg hl fun ms h1 h2 => el _ (o2_neI _ ?_)
  rw [show decide (((ms.length : Nat) : Int) = (ns.length : Nat)) = decide (ms.length = ns.length) from decide_eq_decide.mpr (by omega), len_nd h1 h2]
  exact hq
theorem sh_is_ringX (C : Cl) : Shows (sp_is_ringX C) 6 (rd_is_ring C) := by
  intro ds M q e h
  obtain ⟨d, t, rfl, ls, hl, hd, ok, hq⟩ := ar2_of h
  have h6 := hl.2.1
  refine sqStep (drop_run ?_)
  refine ⟨hl.okK hd, ?_⟩
  rw [hl.wr hd]
  generalize hw : (fun cls fs (x : Rho) M' => ∃ M2, MLe M2 M' ∧ e cls fs M2 : PWi) = w
  have eisi : EvT (dNot (dTst (dB1 (fIsi2 "list" "tuple") (dVar 1)))) w [some (.val d), some (.val t), none, none, none, none] M (!sqB t) := evt_not (evt (ev_b1 (ev_var (i := 1) rfl) (o1_isi ok)))
  cases sq : sqB t with
  | false =>
    rw [sq] at eisi
    refine sqIfTR (evt_orT eisi) (ev_c (d := .bl false)) ?_
    have : ringB ls t = false := by unfold ringB; rw [sq]; rfl
    rw [this] at hq
    exact ⟨M, MLe.refl _, hq⟩
  | true =>
  rw [sq] at eisi
  have ht := sq_cases sq
  have okl := ok.2.1
  have okp := ok.2.2
  generalize hl0 : itK t = l at ht okl okp
  have c1 : EvA (dComp [3] (iA (dVar 1)) (gNm 3) dYes (dCall (sp_is_between C) [] (dCons (dVar 3) (dCons (dC (.int 0)) (dCons (dOp fSub (dB1 fLen (dVar 0)) (dC (.int 1))) dNil))))) w [some (.val d), some (.val t), none, none, none, none] M ((l.map fun x => btwD x 0 ((ls.length : Nat) - 1 : Int)).map .bl) := by
    intro κ hκ
    refine ⟨rfl, ?_⟩
    refine iA_sq ht rfl ?_
    refine compR_map (fun x => .bl (btwD x 0 ((ls.length : Nat) - 1 : Int))) l (fun y hy kt kf hk => ?_) (by omega) ?_
    · have ea : EvA (dCons (dVar 3) (dCons (dC (.int 0)) (dCons (dOp fSub (dB1 fLen (dVar 0)) (dC (.int 1))) dNil))) w0 [some (.val d), some (.val t), none, some (.val y), none, none] M [y, .int 0, .int ((ls.length : Nat) - 1 : Int)] := eva_cons (ev_var rfl) (eva_cons ev_c (eva_cons (ev_op (ev_b1 (ev_var (i := 0) rfl) (o1_lenK hd)) ev_c o2_sub) eva_nil))
      exact ev_call (sp := sp_is_between C) (v := .bl (btwD y 0 ((ls.length : Nat) - 1 : Int))) ea (fun q e hq => ⟨(okp y hy).1, hq⟩) _ hk
    · rw [List.map_map] at hκ; exact hκ
  have eall : EvT (dNot (dTst (dB1 fAll (dL (dComp [3] (iA (dVar 1)) (gNm 3) dYes (dCall (sp_is_between C) [] (dCons (dVar 3) (dCons (dC (.int 0)) (dCons (dOp fSub (dB1 fLen (dVar 0)) (dC (.int 1))) dNil))))))))) w [some (.val d), some (.val t), none, none, none, none] M (!(l.all fun x => btwD x 0 ((ls.length : Nat) - 1 : Int))) :=
    evt_not (evt (ev_b1 (ev_lc c1) (fun κ hκ => fAll_of (bs := l.map fun x => btwD x 0 ((ls.length : Nat) - 1 : Int)) rfl (by rw [List.all_map]; exact hκ))))
  cases al : l.all fun x => btwD x 0 ((ls.length : Nat) - 1 : Int) with
  | false =>
    rw [al] at eall
    refine sqIfTR (evt_orF eisi eall) (ev_c (d := .bl false)) ?_
    have : ringB ls t = false := by unfold ringB; rw [hl0, al, Bool.false_and, Bool.and_false]
    rw [this] at hq
    exact ⟨M, MLe.refl _, hq⟩
  | true =>
  rw [al] at eall
  refine sqIfFN (evt_orF eisi eall) ?_
  obtain ⟨el0, rg0⟩ := btw_all al
  have er : ringB ls t = rgN ls (l.map intD) := by unfold ringB; rw [sq, hl0, al, Bool.true_and, Bool.true_and]
  rw [er] at hq
  have hlen : l.length = (l.map intD).length := (List.length_map ..).symm
  generalize l.map intD = ns at el0 rg0 hq hlen
  subst el0
  have rg : ∀ x ∈ ns, 0 ≤ x ∧ x < ls.length := fun x hx => by have := rg0 x hx; omega
  have el : ∀ {ρ : Rho}, gt ρ 1 = some (.val t) → Ev (dB1 fLen (dVar 1)) w ρ M (.int (ns.length : Nat)) := fun hg => by
    have := ev_b1 (ev_var (w := w) (M := M) hg) (o1_lenQ ht)
    rwa [← hlen]
  have e2 := evt (ev_op (el (ρ := [some (.val d), some (.val t), none, none, none, none]) rfl) (ev_c (d := .int 2)) (o2_cmp (p := fun i j => decide (i < j))))
  by_cases c2 : (ns.length : Int) < 2
  · rw [decide_eq_true c2] at e2
    refine sqIfTR (evt_orT e2) (ev_c (d := .bl false)) ?_
    have : rgN ls ns = false := by unfold rgN; rw [decide_eq_false (by omega)]; rfl
    rw [this] at hq
    exact ⟨M, MLe.refl _, hq⟩
  rw [decide_eq_false c2] at e2
  have es : EvT (dTst (dOp fNe (dLenSetX (dVar 1)) (dB1 fLen (dVar 1)))) w [some (.val d), some (.val t), none, none, none, none] M (!decide ns.Nodup) := evt_nds ht rfl (by omega) (el rfl)
  by_cases nd : ns.Nodup
  case neg =>
    rw [decide_eq_false nd] at es
    refine sqIfTR (evt_orF e2 es) (ev_c (d := .bl false)) ?_
    have : rgN ls ns = false := by unfold rgN; rw [decide_eq_false nd, Bool.false_and, Bool.and_false]
    rw [this] at hq
    exact ⟨M, MLe.refl _, hq⟩
  rw [decide_eq_true nd] at es
  refine sqIfFN (evt_orF e2 es) ?_
  have hn6 : ns.length ≤ 6 := by
    have := nodup_lenG (ms := ns) (ns := zxs ls.length) nd fun k hk => zxs_mem.mpr (rg k hk)
    rw [zxs_len] at this
    omega
  have er2 : rgN ls ns = (if ns.length = 2 then clh ls (ns.getD 0 0).toNat (ns.getD 1 0).toNat else
    (cyc (lstI (ns.headD 0) ns.tail) ns).all (fun p => jn ls p.1.toNat p.2.toNat) && decide ((cyc (lstI (ns.headD 0) ns.tail) ns).countP (unk ls) % 2 = 1)) := by
    unfold rgN
    rw [decide_eq_true (by omega), decide_eq_true nd, Bool.true_and, Bool.true_and]
  rw [er2] at hq
  have ei : ∀ {ρ : Rho} {pk : PTE} {k : Nat}, gt ρ 1 = some (.val t) → k < ns.length → Ev pk w ρ M (.int (k : Int)) → Ev (dOp fIx (dVar 1) pk) w ρ M (.int (ns.getD k 0)) := fun hg hk hp => ev_op (ev_var hg) hp (o2_ixQ ht (atI_get hk))
  refine sqStep (if_ev (evt (ev_op (el rfl) ev_c o2_eqI)) (fun z => ?_) (fun z => ?_))
  · have z := of_decide_eq_true z
    subst hw
    rw [if_pos (by omega)] at hq
    refine ret_ev ?_ ⟨M, MLe.refl _, hq⟩
    have g0 := rg _ (getD_mem (l := ns) (k := 0) (by omega))
    have g1 := rg _ (getD_mem (l := ns) (k := 1) (by omega))
    have := ev_op (ev_bondI (C := C) hl hd g0 g1 (ev_var (i := 0) rfl) (ei (k := 0) rfl (by omega) ev_c) (ei (ρ := [some (.val d), some (.val t), none, none, none, none]) (k := 1) rfl (by omega) ev_c)) (ev_c (d := .str "clash")) (o2_eq (jn_bnd ls _ _).2.2.2 (by decide +kernel))
    rw [show eqD (.str (wdI ls (ns.getD 0 0, ns.getD 1 0))) (.str "clash") = clh ls (ns.getD 0 0).toNat (ns.getD 1 0).toNat from (jn_bnd ls _ _).2.2.1] at this
    exact this
  · have z := of_decide_eq_false z
    rw [if_neg (by omega)] at hq
    obtain ⟨x, s, rfl⟩ : ∃ x s, ns = x :: s := by
      match ns, c2 with
      | x :: s, _ => exact ⟨x, s, rfl⟩
      | [], c => exact absurd (show (0 : Int) < 2 by decide) c
    have hq : q (.bl ((cyc (lstI x s) (x :: s)).all (fun p => jn ls p.1.toNat p.2.toNat) && decide ((cyc (lstI x s) (x :: s)).countP (unk ls) % 2 = 1))) M := hq
    have c2 : EvA (dComp [4] (iR1 (dB1 fLen (dVar 1))) (gNm 4) dYes (dCall (sp_bond C) [] (dCons (dOp fIx (dVar 0) (dOp fIx (dVar 1) (dOp fSub (dVar 4) (dC (.int 1))))) (dCons (dOp fIx (dVar 0) (dOp fIx (dVar 1) (dVar 4))) dNil)))) w [some (.val d), some (.val t), none, none, none, none] M (((cyc (lstI x s) (x :: s)).map (wdI ls)).map .str) := by
      intro κ hκ
      refine ⟨rfl, ?_⟩
      refine el rfl _ ⟨by omega, by omega, ?_⟩
      rw [show (((x :: s).length : Nat) : Int).toNat = (x :: s).length by omega, rngZ']
      refine compR_map (fun d => match d with | .int k => .str (wdI ls ((lstI x s :: x :: s).getD k.toNat 0, (x :: s).getD k.toNat 0)) | _ => .non) _ (fun y hy kt kf hk => ?_) (by rw [List.length_map, List.length_range]; omega) ?_
      · obtain ⟨k, hk2, rfl⟩ := List.mem_map.mp hy
        have hk3 := List.mem_range.mp hk2
        obtain ⟨p1, p2⟩ := atI_pre hk3
        have eB : Ev (dCall (sp_bond C) [] (dCons (dOp fIx (dVar 0) (dOp fIx (dVar 1) (dOp fSub (dVar 4) (dC (.int 1))))) (dCons (dOp fIx (dVar 0) (dOp fIx (dVar 1) (dVar 4))) dNil))) w0 [some (.val d), some (.val t), none, none, some (.val (.int (k : Int))), none] M (.str (wdI ls ((lstI x s :: x :: s).getD k 0, (x :: s).getD k 0))) :=
          ev_bondI (C := C) hl hd (rg _ p2) (rg _ (getD_mem hk3)) (ev_var (i := 0) rfl) (ev_op (ev_var (i := 1) rfl) (ev_op (ev_var (i := 4) (d := .int (k : Int)) rfl) ev_c o2_sub) (o2_ixQ ht p1)) (ev_op (ev_var (i := 1) rfl) (ev_var (i := 4) (d := .int (k : Int)) rfl) (o2_ixQ ht (atI_get hk3)))
        exact eB _ hk
      · have e9 : ((List.range (x :: s).length).map fun k : Nat => D.int (k : Int)).map (fun d => match d with | .int k => .str (wdI ls ((lstI x s :: x :: s).getD k.toNat 0, (x :: s).getD k.toNat 0)) | _ => .non) = ((cyc (lstI x s) (x :: s)).map (wdI ls)).map D.str := by
          rw [List.map_map, cyc_map, List.map_map, List.map_map]
          rfl
        rw [e9]
        exact hκ
    refine sqSet (ev_lc c2) ?_
    subst hw
    generalize hL : cyc (lstI x s) (x :: s) = L at *
    have hlen : L.length ≤ 6 := by rw [← hL, cyc_map, List.length_map, List.length_range]; exact hn6
    have c3 : EvA (dComp [5] (iA (dVar 2)) (gNm 5) dYes (dOp (fInF false) (dVar 5) (dTup (dCons (dC (.str "alike")) (dCons (dC (.str "unlike")) dNil))))) (fun cls fs (x : Rho) M' => ∃ M2, MLe M2 M' ∧ e cls fs M2 : PWi) [some (.val d), some (.val t), some (.val (.lst ((L.map (wdI ls)).map .str))), none, none, none] M (L.map fun p => .bl (jn ls p.1.toNat p.2.toNat)) := by
      intro κ hκ
      refine ⟨rfl, ?_⟩
      refine compR_map (fun d => .bl (inV (match d with | .str s => .str s | _ => .non) [V.str "alike", V.str "unlike"])) ((L.map (wdI ls)).map .str) (fun y hy kt kf hk => ?_) (by rw [List.length_map, List.length_map]; omega) ?_
      · obtain ⟨z, hz, rfl⟩ := List.mem_map.mp hy
        have eI : Ev (dOp (fInF false) (dVar 5) (dTup (dCons (dC (.str "alike")) (dCons (dC (.str "unlike")) dNil)))) w0 [some (.val d), some (.val t), some (.val (.lst ((L.map (wdI ls)).map .str))), none, none, some (.val (.str z))] M (.bl (inV (.str z) [V.str "alike", V.str "unlike"])) :=
          ev_op (ev_var (i := 5) (d := .str z) rfl) (ev_tup (eva_cons ev_c (eva_cons ev_c eva_nil)) (by show 2 ≤ 1000000; decide)) (fun κ hκ => by
          show κ (.bl (if false = true then !inV (.str z) [V.str "alike", V.str "unlike"] else inV (.str z) [V.str "alike", V.str "unlike"]))
          rw [if_neg (by decide)]
          exact hκ)
        exact eI _ hk
      · rw [List.map_map, List.map_map]
        rw [show L.map (((fun d => D.bl (inV (match d with | .str s => .str s | _ => .non) [V.str "alike", V.str "unlike"])) ∘ D.str) ∘ wdI ls) = L.map fun p => .bl (jn ls p.1.toNat p.2.toNat) from List.map_congr_left fun p _ => congrArg D.bl (in_un p)]
        exact hκ
    refine ret_ev (ev_and (b := L.all fun p => jn ls p.1.toNat p.2.toNat) (c := decide (L.countP (unk ls) % 2 = 1)) ?_ (fun j1 => ?_) rfl) ⟨M, MLe.refl _, hq⟩
    · refine ev_b1 (ev_lc c3) (fun κ hκ => fAll_of (bs := L.map fun p => jn ls p.1.toNat p.2.toNat) (by rw [List.map_map]; rfl) ?_)
      rw [List.all_map]
      exact hκ
    · have j1 : ∀ p ∈ L, jn ls p.1.toNat p.2.toNat = true := List.all_eq_true.mp j1
      have ec := ev_mtl (w := (fun cls fs (x : Rho) M' => ∃ M2, MLe M2 M' ∧ e cls fs M2 : PWi)) (M := M) (ρ := [some (.val d), some (.val t), some (.val (.lst ((L.map (wdI ls)).map .str))), none, none, none]) (f := fCntS) (z := .int ((L.countP (unk ls) : Nat) : Int)) (ev_var (i := 2) rfl) (ev_c (d := .str "unlike")) (fun κ hκ => ⟨L.map (wdI ls), "unlike", rfl, rfl, by rw [List.length_map]; omega, fun t ht => by
        obtain ⟨p, _, rfl⟩ := List.mem_map.mp ht
        exact wdI_ok ls p, by decide +kernel, by rw [cnt_un j1]; exact hκ⟩)
      have := ev_op (ev_op ec (ev_c (d := .int 2)) (o2_mod (by decide))) (ev_c (d := .int 1)) o2_eqI
      rw [show decide (((L.countP (unk ls) : Nat) : Int) % 2 = 1) = decide (L.countP (unk ls) % 2 = 1) from decide_eq_decide.mpr (by omega)] at this
      exact this
theorem ringB_rg {ls : List (Int × Int)} {ns : List Int} (R : Rg ls ns) : ringB ls (.lst (ns.map .int)) = true := by
  have e1 : (ns.map D.int).map intD = ns := by rw [List.map_map]; exact List.map_id _
  have hb := R.big
  show (true && ((ns.map D.int).all (fun d => btwD d 0 ((ls.length : Nat) - 1 : Int)) && rgN ls ((ns.map D.int).map intD))) = true
  rw [Bool.true_and, Bool.and_eq_true, e1]
  refine ⟨?_, ?_⟩
  · rw [List.all_map]
    refine List.all_eq_true.mpr fun x hx => ?_
    have := R.rg x hx
    exact btw_of this.1 (by omega)
  · unfold rgN
    rw [decide_eq_true hb, decide_eq_true R.nd, Bool.true_and, Bool.true_and]
    by_cases c : ns.length = 2
    · rw [if_pos c]
      have e0 : ns = [ns.getD 0 0, ns.getD 1 0] := by
        match ns, c with
        | [a, b], _ => rfl
      exact R.two _ _ e0
    · rw [if_neg c]
      obtain ⟨x, s, rfl⟩ : ∃ x s, ns = x :: s := by
        match ns, hb with
        | x :: s, _ => exact ⟨x, s, rfl⟩
      obtain ⟨j1, j2⟩ := R.long x s rfl c
      rw [Bool.and_eq_true]
      exact ⟨List.all_eq_true.mpr fun p hp => j1 p hp, decide_eq_true j2⟩
end Px
set_option Elab.async false
set_option linter.all false
set_option maxRecDepth 100000
namespace Px
open PySem PySem.Spec PyProof.Rows L2
section
variable {ls : List (Int × Int)} {S : Nat → Int} {Hd : Nat → Nat} {A : Nat → Option Nat} {L : List Nat}
end
end Px
set_option Elab.async false
set_option linter.all false
set_option maxRecDepth 100000
namespace Px
open PySem PySem.Spec PyProof.Rows L2
def SgAt (M : Mm) (done : List Nat) (a : Addr) (τ : Nat → Int) : Prop := ∃ kvs, M a = some (.dik kvs) ∧ DkF kvs done fun i => .int (τ i)
def DsAt (M : Mm) (done : List Nat) : List Addr → List (Nat → Int) → Prop
  | [], [] => True
  | a :: as, τ :: ts => SgAt M done a τ ∧ DsAt M done as ts
  | _, _ => False
theorem SgAt.mono {M M' : Mm} {done : List Nat} {a : Addr} {τ : Nat → Int} (le : MLe M M') (h : SgAt M done a τ) : SgAt M' done a τ := by
  obtain ⟨k, h1, h2⟩ := h
  exact ⟨k, le _ _ h1, h2⟩
theorem DsAt.mono {M M' : Mm} {done : List Nat} (le : MLe M M') : ∀ {as : List Addr} {ts : List (Nat → Int)}, DsAt M done as ts → DsAt M' done as ts
  | [], [], _ => trivial
  | a :: as, τ :: ts, h => ⟨h.1.mono le, DsAt.mono le (as := as) (ts := ts) h.2⟩
  | [], _ :: _, h => h.elim
  | _ :: _, [], h => h.elim
theorem DsAt.len {M : Mm} {done : List Nat} : ∀ {as : List Addr} {ts : List (Nat → Int)}, DsAt M done as ts → as.length = ts.length
  | [], [], _ => rfl
  | a :: as, τ :: ts, h => congrArg (· + 1) (DsAt.len (as := as) (ts := ts) h.2)
  | [], _ :: _, h => h.elim
  | _ :: _, [], h => h.elim
end Px
set_option Elab.async false
set_option linter.all false
set_option maxRecDepth 100000
namespace Px
open PySem PySem.Spec PyProof.Rows L2
section
variable {ls : List (Int × Int)}
structure Md (ls : List (Int × Int)) (j : Nat) (m : Int) : Prop where
  pos : 0 < m
  dv : ∀ k, m ∣ k ↔ ∀ i, i < j → 2 * hL ls i ∣ k
theorem Md.le (k : Lk ls) {j : Nat} {m : Int} (h : Md ls j m) (hj : j ≤ ls.length) : m ∣ 2 * roofL ls := (h.dv _).mpr fun i hi => roof_dvd k (by omega)
theorem Md.zero : Md ls 0 1 := ⟨by decide, fun k => ⟨fun _ i hi => absurd hi (Nat.not_lt_zero _), fun _ => Int.one_dvd k⟩⟩
theorem Md.next {j : Nat} {m : Int} (h : Md ls j m) (hp : 0 < 2 * hL ls j) : Md ls (j + 1) (lcp m (2 * hL ls j)) := by
  obtain ⟨l1, l2⟩ := lcp_ok h.pos hp
  refine ⟨l1, fun k => ?_⟩
  rw [l2, h.dv]
  refine ⟨fun ⟨a, b⟩ i hi => ?_, fun a => ⟨fun i hi => a i (by omega), a j (by omega)⟩⟩
  rcases Nat.lt_or_eq_of_le (Nat.le_of_lt_succ hi) with c | rfl
  · exact a i c
  · exact b
end
section
variable {C : Cl} {w : PWi} {P : PEnds} {M : Mm} {ls : List (Int × Int)} {d : D} {b1 b2 b3 a : Addr} {fd : List D} {x3 x4 : Option Sv} {τ : Nat → Int} {X : Int}
end
end Px
set_option Elab.async false
set_option linter.all false
set_option maxRecDepth 100000
namespace Px
open PySem PySem.Spec PyProof.Rows L2
theorem put_in {kvs : List (Key × D)} {k : Key} {d : D} (c : k ∈ kvs.map (·.1)) : (putDK kvs k d).map (·.1) = kvs.map (·.1) := by
  unfold putDK
  obtain ⟨p, hp, h⟩ := List.mem_map.mp c
  rw [if_pos (List.any_eq_true.mpr ⟨p, hp, decide_eq_true h⟩), List.map_map]
  refine List.map_congr_left fun p _ => ?_
  show (if p.1 = k then (p.1, d) else p).1 = p.1
  split <;> rfl
theorem put_out {kvs : List (Key × D)} {k : Key} {d : D} (c : k ∉ kvs.map (·.1)) : (putDK kvs k d).map (·.1) = kvs.map (·.1) ++ [k] := by
  unfold putDK
  rw [if_neg (fun z => by
    obtain ⟨p, hp, h⟩ := List.any_eq_true.mp z
    exact c (List.mem_map.mpr ⟨p, hp, of_decide_eq_true h⟩)), List.map_append]
  rfl
structure RsAt (M : Mm) (c : Addr) (ks : List Int) : Prop where
  dk : ∃ kvs, M c = some (.dik kvs) ∧ kvs.map (·.1) = ks.map Sum.inl
  nd : ks.Nodup
theorem RsAt.put {M : Mm} {c : Addr} {ks : List Int} {kvs : List (Key × D)} (R : RsAt M c ks) (e1 : M c = some (.dik kvs)) (e2 : kvs.map (·.1) = ks.map Sum.inl) (x : Int) (v : D) :
    ∃ ks', RsAt (updM M c (.dik (putDK kvs (.inl x) v))) c ks' ∧ (∀ y, y ∈ ks' ↔ y ∈ ks ∨ y = x) ∧ ks'.length ≤ ks.length + 1 := by
  by_cases m : x ∈ ks
  · have kp := put_in (kvs := kvs) (k := .inl x) (d := v) (by rw [e2]; exact List.mem_map.mpr ⟨x, m, rfl⟩)
    rw [e2] at kp
    exact ⟨ks, ⟨⟨_, updM_same, kp⟩, R.nd⟩, fun y => ⟨.inl, fun h => h.elim id fun z => z ▸ m⟩, by omega⟩
  · have kp := put_out (kvs := kvs) (k := .inl x) (d := v) (fun z => m (by
      rw [e2] at z
      obtain ⟨y, hy, ey⟩ := List.mem_map.mp z
      injection ey with ey
      exact ey ▸ hy))
    rw [e2] at kp
    refine ⟨ks ++ [x], ⟨⟨_, updM_same, by rw [kp, List.map_append]; rfl⟩, ?_⟩, fun y => ?_, by rw [List.length_append]; exact Nat.le_refl _⟩
    · rw [List.nodup_append]
      refine ⟨R.nd, by simp, fun a ha b hb => ?_⟩
      rw [List.mem_singleton.mp hb]
      rintro rfl
      exact m ha
    · rw [List.mem_append, List.mem_singleton]
section
variable {C : Cl} {w : PWi} {P : PEnds} {M0 : Mm} {ls : List (Int × Int)} {d : D} {b1 b2 b3 c : Addr} {fd : List D} {x3 : Option Sv}
end
end Px
set_option Elab.async false
set_option linter.all false
set_option maxRecDepth 100000
namespace Px
open PySem PySem.Spec PyProof.Rows L2
section
variable {C : Cl} {w : PWi} {P : PEnds} {ρ : Rho} {M : Mm} {r : PTS} {pm pa : PTE}
end
end Px
set_option Elab.async false
set_option linter.all false
set_option maxRecDepth 100000
namespace Px
open PySem PySem.Spec PyProof.Rows L2
def pr : List Nat → Nat
  | [] => 1
  | a :: r => a * pr r
section
variable {ls : List (Int × Int)} {S : Nat → Int} {Hd : Nat → Nat} {A : Nat → Option Nat} {L : List Nat}
theorem Tree.apart (T : Tree ls S Hd A L) (o : Ok ls S) {i j : Nat} (hi : i < ls.length) (hj : j < ls.length) (hne : Hd i ≠ Hd j) : g0 (hL ls j) (hL ls i) ∣ sL ls i := by
  have nj : jn ls i j = false := by
    cases c : jn ls i j with
    | false => rfl
    | true => exact absurd (T.clo i j ((T.all i).mpr hi) ((T.all j).mpr hj) c) hne
  have nc := (o i j hi hj).1
  have both : alk ls i j = true ∧ unl ls i j = true := by
    unfold jn at nj
    unfold clh at nc
    revert nj nc
    cases alk ls i j <;> cases unl ls i j <;> simp
  have h1 := alk_iff.mp both.1
  have h2 := unl_iff.mp both.2
  have h3 := Int.dvd_add h1 h2
  rw [show sL ls i - sL ls j + (sL ls i + sL ls j) = 2 * sL ls i by omega] at h3
  unfold stL at h3
  obtain ⟨c, hc⟩ := h3
  rw [show g0 (hL ls j) (hL ls i) = g0 (hL ls i) (hL ls j) by unfold g0; rw [Int.gcd_comm]]
  exact ⟨c, by rw [Int.mul_assoc] at hc; omega⟩
end
end Px
set_option Elab.async false
set_option linter.all false
set_option maxRecDepth 100000
namespace Px
open PySem PySem.Spec PyProof.Rows L2
end Px
set_option Elab.async false
set_option linter.all false
set_option maxRecDepth 100000
namespace Px
open PySem PySem.Spec PyProof.Rows L2
section
variable {C : Cl} {w : PWi} {P : PEnds} {ρ : Rho} {M : Mm} {r : PTS} {pa : PTE} {ls : List (Int × Int)} {d : D}
theorem drop_need (hl : LkOk ls) (hd : isLks d ls) (ha : Ev pa w ρ M d) (k : r w P ρ M) : dSeq (dDrop (dCall (sp_need_looks C) [] (dCons pa dNil))) r w P ρ M := ha _ ⟨hl.okK hd, by rw [hl.wr hd]; exact k⟩
end
end Px
set_option Elab.async false
set_option linter.all false
set_option maxRecDepth 100000
namespace Px
open PySem PySem.Spec PyProof.Rows L2
section
variable {ls : List (Int × Int)} {S : Nat → Int} {Hd : Nat → Nat} {A : Nat → Option Nat} {L : List Nat}
end
theorem fit_ok {ls : List (Int × Int)} {n : Int} (h : Fit ls n) : isN (ringD ls) = true := (ring_ok ls).mpr ((net_tree ls).fits_ok h)
end Px
set_option Elab.async false
set_option linter.all false
set_option maxRecDepth 100000
namespace Px
open PySem PySem.Spec PyProof.Rows L2
theorem roof_map (ls : List (Int × Int)) : roofL ls = lcmL (ls.map (·.1)) := rfl
section
variable {C : Cl} {w : PWi} {P : PEnds} {ρ : Rho} {M : Mm} {a : Addr} {pa pb pc : PTE}
theorem evg_halves {many most : Int} (ha : Ev pa w ρ M (.raw (.ref a))) (hb : Ev pb w ρ M (.int many)) (hc : Ev pc w ρ M (.int most)) (hm : M a = some .draw) (h1 : 1 ≤ many ∧ many ≤ 6) (h2 : 60 ≤ most ∧ most ≤ 1000) :
    EvG (dCall (sp__law_halves C) [] (dCons pa (dCons pb (dCons pc dNil)))) w ρ M (fun z => ∃ hs, z = .lst (hs.map .int) ∧ HsOk hs ∧ lcmL hs ≤ most) := fun q hq => ha _ (hb _ (hc _ ⟨hm, ⟨h1.1, h1.2, h2.1, h2.2⟩, fun hs o l _ => hq _ ⟨hs, rfl, o, l⟩⟩))
theorem ev_lcm9 {hs : List Int} (ho : HsOk hs) (ha : Ev pa w ρ M (.lst (hs.map .int))) : Ev (dCall (sp__law_lcm C) [] (dCons pa dNil)) w ρ M (.int (lcmL hs)) := ev_call (eva_cons ha eva_nil) fun q e hq => ⟨hs, .inl rfl, ho.sm, fun d hd => hd ▸ hq⟩
theorem ev_seen9 {h n : Int} (h0 : 1 ≤ h) (h1 : h ≤ 1000) (n0 : 0 ≤ n) (n1 : n ≤ 10 ^ 40) (ha : Ev pa w ρ M (.int h)) (hb : Ev pb w ρ M (.int n)) : Ev (dCall (sp__law_seen C) [] (dCons pa (dCons (dTup (dCons pb (dCons (dC (.int 1)) dNil))) dNil))) w ρ M (.tup [.int (near (2 * h) n), .int 1]) :=
  ev_call (eva_cons ha (eva_cons (ev_tup (eva_cons hb (eva_cons ev_c eva_nil)) (by show 2 ≤ 1000000; decide)) eva_nil)) fun q e hq => ⟨⟨by omega, by omega, by omega, by omega, by decide, by decide⟩, fun d hd => by rw [fold_one] at hd; exact hd ▸ hq⟩
theorem lcm_rg {hs : List Int} (ho : HsOk hs) : 0 < lcmL hs := lcmL_pos ho.sm.pos
theorem near_bd {h n : Int} (h0 : 1 ≤ h) : 0 ≤ near (2 * h) n ∧ near (2 * h) n ≤ h := by
  obtain ⟨a, b, _⟩ := near_bounds (s := 2 * h) (by omega) n
  omega
theorem sqParL2G {r : PTS} {i j : Nat} {G : D → Prop} (h : EvG pa w ρ M G) (k : ∀ d, G d → r w P (st (st ρ i (.val d)) j (.own [])) M) : dSeq (dParL2 i j pa) r w P ρ M := h _ k
theorem forL9_ev {gd : PTG} {p : PTS} {ds : List D} (h : Ev pa w ρ M (.lst ds)) (k : forR gd p w ds P ρ M) : dFor (iA pa) gd p w P ρ M := h _ k
theorem frz9 {i : Nat} {p : PTS} {l : List D} (h : gt ρ i = some (.own l)) (k : p w P (st ρ i (.val (.lst l))) M) : dFrz i p w P ρ M := by
  unfold dFrz
  rw [h]
  exact k
end
def sp__law_sights (C : Cl) : PSp := fun ds M q _ => ar2 ds fun d x => asDraw d M (asI x fun most => (60 ≤ most ∧ most ≤ 1000) ∧ ∀ ls, LkOk ls → roofL ls ≤ most → q (.lst (ls.map lkD)) M)
def rd__law_sights (C : Cl) : PTS := (dSeq (dSet 2 (dCall (sp__law_halves C) [] (dCons (dVar 0) (dCons (dC (.int 6)) (dCons (dVar 1) dNil)))))
    (dSeq (dParL2 3 4 (dCall sp_take [] (dCons (dVar 0) (dCons (dOp fAdd (dOp fMul (dC (.int 2)) (dCall (sp__law_lcm C) [] (dCons (dVar 2) dNil))) (dC (.int 1))) dNil))))
    (dSeq (dFor (iA (dVar 2)) (gNm 5) (dSeq (dSet 6 (dOp fIx (dCall (sp__law_seen C) [] (dCons (dVar 5) (dCons (dTup (dCons (dVar 3) (dCons (dC (.int 1)) dNil))) dNil))) (dC (.int 0))))
    (dSeq (dSet 7 (dCall sp_take [] (dCons (dVar 0) (dCons (dC (.int 6)) dNil))))
    (dSeq (dIfS (dTst (dOp fEq (dVar 7) (dC (.int 0)))) (dSet 6 (dCall sp_take [] (dCons (dVar 0) (dCons (dOp fAdd (dVar 5) (dC (.int 1))) dNil)))) dNext)
    (dSeq (dIfS (dTst (dOp fEq (dVar 7) (dC (.int 1)))) (dSet 6 (dOp fMax2 (dC (.int 0)) (dOp fMin2 (dVar 5) (dOp fAdd (dVar 6) (dCall sp_pick [] (dCons (dVar 0) (dCons (dL (dLst (dCons (dC (.int 1)) (dCons (dNeg (dC (.int 1))) dNil)))) dNil))))))) dNext)
    (dSeq (dIfS (dTst (dOp fEq (dVar 7) (dC (.int 2)))) (dSet 6 (dOp fSub (dVar 5) (dVar 6))) dNext)
    (dApp 4 (dTup (dCons (dVar 5) (dCons (dVar 6) dNil))))))))))
    (dFrz 4 (dRet (dVar 4))))))
def sgBody (C : Cl) : PTS := (dSeq (dSet 6 (dOp fIx (dCall (sp__law_seen C) [] (dCons (dVar 5) (dCons (dTup (dCons (dVar 3) (dCons (dC (.int 1)) dNil))) dNil))) (dC (.int 0))))
    (dSeq (dSet 7 (dCall sp_take [] (dCons (dVar 0) (dCons (dC (.int 6)) dNil))))
    (dSeq (dIfS (dTst (dOp fEq (dVar 7) (dC (.int 0)))) (dSet 6 (dCall sp_take [] (dCons (dVar 0) (dCons (dOp fAdd (dVar 5) (dC (.int 1))) dNil)))) dNext)
    (dSeq (dIfS (dTst (dOp fEq (dVar 7) (dC (.int 1)))) (dSet 6 (dOp fMax2 (dC (.int 0)) (dOp fMin2 (dVar 5) (dOp fAdd (dVar 6) (dCall sp_pick [] (dCons (dVar 0) (dCons (dL (dLst (dCons (dC (.int 1)) (dCons (dNeg (dC (.int 1))) dNil)))) dNil))))))) dNext)
    (dSeq (dIfS (dTst (dOp fEq (dVar 7) (dC (.int 2)))) (dSet 6 (dOp fSub (dVar 5) (dVar 6))) dNext)
    (dApp 4 (dTup (dCons (dVar 5) (dCons (dVar 6) dNil)))))))))
section
variable {C : Cl} {w : PWi} {P : PEnds} {M : Mm} {a : Addr} {x1 x2 x6 x7 : Option Sv} {n h s wy : Int} {L : List D}
abbrev ρs (a : Addr) (x1 x2 : Option Sv) (n : Int) (L : List D) (h : Int) (x6 x7 : Option Sv) : Rho := [some (.val (.raw (.ref a))), x1, x2, some (.val (.int n)), some (.own L), some (.val (.int h)), x6, x7]
theorem sgBody_ok (hm : M a = some .draw) (h0 : 1 ≤ h) (h1 : h ≤ 1000) (n0 : 0 ≤ n) (n1 : n ≤ 10 ^ 40) (hL : L.length < 1000)
    (hN : ∀ s wy : Int, 0 ≤ s → s ≤ h → P.nx (ρs a x1 x2 n (L ++ [lkD (h, s)]) h (some (.val (.int s))) (some (.val (.int wy)))) M) : sgBody C w P (ρs a x1 x2 n L h x6 x7) M := by
  have nb := near_bd (n := n) h0
  refine sqSet (ev_op (ev_seen9 h0 h1 n0 n1 (ev_var rfl) (ev_var rfl)) ev_c (o2_ixT atI_01.1)) ?_
  refine sqSetG (evg_take (a := a) (n := 6) (ev_var rfl) ev_c hm (tk_of (by decide) (by decide))) ?_
  rintro _ ⟨wy, rfl, _, _⟩
  generalize near (2 * h) n = s at nb
  have s3 : ∀ s : Int, 0 ≤ s → s ≤ h → (dSeq (dIfS (dTst (dOp fEq (dVar 7) (dC (.int 2)))) (dSet 6 (dOp fSub (dVar 5) (dVar 6))) dNext) (dApp 4 (dTup (dCons (dVar 5) (dCons (dVar 6) dNil))))) w P (ρs a x1 x2 n L h (some (.val (.int s))) (some (.val (.int wy)))) M := by
    intro s a0 a1
    have fin : ∀ s : Int, 0 ≤ s → s ≤ h → dApp 4 (dTup (dCons (dVar 5) (dCons (dVar 6) dNil))) w P (ρs a x1 x2 n L h (some (.val (.int s))) (some (.val (.int wy)))) M := fun s a0 a1 =>
      app_ev rfl (by omega) (ev_tup (eva_cons (ev_var rfl) (eva_cons (ev_var rfl) eva_nil)) (by show 2 ≤ 1000000; decide)) (hN s wy a0 a1)
    refine sqStep (if_ev (evt (ev_op (ev_var rfl) ev_c o2_eqI)) (fun _ => ?_) (fun _ => fin s a0 a1))
    exact set_ev (d := .int (h - s)) (ev_op (ev_var rfl) (ev_var rfl) o2_sub) (fin (h - s) (by omega) (by omega))
  have s2 : ∀ s : Int, 0 ≤ s → s ≤ h → (dSeq (dIfS (dTst (dOp fEq (dVar 7) (dC (.int 1)))) (dSet 6 (dOp fMax2 (dC (.int 0)) (dOp fMin2 (dVar 5) (dOp fAdd (dVar 6) (dCall sp_pick [] (dCons (dVar 0) (dCons (dL (dLst (dCons (dC (.int 1)) (dCons (dNeg (dC (.int 1))) dNil)))) dNil))))))) dNext)
      (dSeq (dIfS (dTst (dOp fEq (dVar 7) (dC (.int 2)))) (dSet 6 (dOp fSub (dVar 5) (dVar 6))) dNext) (dApp 4 (dTup (dCons (dVar 5) (dCons (dVar 6) dNil)))))) w P (ρs a x1 x2 n L h (some (.val (.int s))) (some (.val (.int wy)))) M := by
    intro s a0 a1
    refine sqStep (if_ev (evt (ev_op (ev_var rfl) ev_c o2_eqI)) (fun _ => ?_) (fun _ => s3 s a0 a1))
    have hx : EvG (dOp fMax2 (dC (.int 0)) (dOp fMin2 (dVar 5) (dOp fAdd (dVar 6) (dCall sp_pick [] (dCons (dVar 0) (dCons (dL (dLst (dCons (dC (.int 1)) (dCons (dNeg (dC (.int 1))) dNil)))) dNil)))))) w (ρs a x1 x2 n L h (some (.val (.int s))) (some (.val (.int wy)))) M (fun z => ∃ t : Int, z = .int t ∧ 0 ≤ t ∧ t ≤ h) := by
      have g1 : EvG (dOp fAdd (dVar 6) (dCall sp_pick [] (dCons (dVar 0) (dCons (dL (dLst (dCons (dC (.int 1)) (dCons (dNeg (dC (.int 1))) dNil)))) dNil)))) w (ρs a x1 x2 n L h (some (.val (.int s))) (some (.val (.int wy)))) M (fun z => ∃ t : Int, z = .int t) :=
        evg_opR (ev_var (d := .int s) rfl) (evg_pick (a := a) (l := [.int 1, .int (-1)]) (ev_var rfl) (ev_lst (eva_cons ev_c (eva_cons (ev_neg ev_c) eva_nil)) (by show 2 ≤ 1000000; decide)) hm (by show 0 < 2 ∧ 2 ≤ 100000; decide)) fun y hy => by
          simp only [List.mem_cons, List.not_mem_nil, or_false] at hy
          rcases hy with rfl | rfl
          · exact ⟨_, o2_add, _, rfl⟩
          · exact ⟨_, o2_add, _, rfl⟩
      have g2 : EvG (dOp fMin2 (dVar 5) (dOp fAdd (dVar 6) (dCall sp_pick [] (dCons (dVar 0) (dCons (dL (dLst (dCons (dC (.int 1)) (dCons (dNeg (dC (.int 1))) dNil)))) dNil))))) w (ρs a x1 x2 n L h (some (.val (.int s))) (some (.val (.int wy)))) M (fun z => ∃ t : Int, z = .int t ∧ t ≤ h) :=
        evg_opR (ev_var (d := .int h) rfl) g1 fun y hy => by
          obtain ⟨t, rfl⟩ := hy
          exact ⟨_, o2_min, _, rfl, by omega⟩
      exact evg_opR ev_c g2 fun y hy => by
        obtain ⟨t, rfl, ht⟩ := hy
        exact ⟨_, o2_max, _, rfl, by omega, by omega⟩
    refine set_evg hx ?_
    rintro _ ⟨t, rfl, t0, t1⟩
    exact s3 t t0 t1
  refine sqStep (if_ev (evt (ev_op (ev_var rfl) ev_c o2_eqI)) (fun _ => ?_) (fun _ => s2 s nb.1 nb.2))
  refine set_evg (evg_take (a := a) (n := h + 1) (ev_var rfl) (ev_op (ev_var (d := .int h) rfl) (ev_c (d := .int 1)) o2_add) hm (tk_of (by omega) (by omega))) ?_
  rintro _ ⟨t, rfl, t0, t1⟩
  exact s2 t t0 (by omega)
end
theorem sh__law_sights (C : Cl) : Shows (sp__law_sights C) 8 (rd__law_sights C) := by
  intro ds M q e h
  obtain ⟨d, x, rfl, h⟩ := ar2_of h
  obtain ⟨a, rfl, hm, h⟩ := asDraw_of h
  obtain ⟨most, rfl, ⟨m0, m1⟩, hq⟩ := asI_of h
  refine sqSetG (evg_halves (C := C) (a := a) (many := 6) (most := most) (ev_var rfl) ev_c (ev_var rfl) hm (by decide) ⟨m0, m1⟩) ?_
  rintro _ ⟨hs, rfl, ho, hl⟩
  have hp := lcm_rg ho
  refine sqParL2G (evg_take (a := a) (n := 2 * lcmL hs + 1) (ev_var rfl) (ev_op (ev_op ev_c (ev_lcm9 ho (ev_var rfl)) (o2_mul (mul_small (by decide) (by decide) (by omega) (by omega)))) ev_c o2_add) hm (tk_of (by omega) (by omega))) ?_
  rintro _ ⟨n, rfl, n0, n1⟩
  refine sqStep (forL9_ev (ds := hs.map .int) (ev_var (i := 2) rfl) ?_)
  refine forR_ind (fun rem ρ M' => M' = M ∧ ∃ (ls : List (Int × Int)) (rs : List Int) (x5 x6 x7 : Option Sv), hs = ls.map (·.1) ++ rs ∧ rem = rs.map .int ∧ (∀ p ∈ ls, 0 ≤ p.2 ∧ p.2 ≤ p.1) ∧ ρ = [some (.val (.raw (.ref a))), some (.val (.int most)), some (.val (.lst (hs.map .int))), some (.val (.int n)), some (.own (ls.map lkD)), x5, x6, x7]) ?_ ?_ _ _ _ ⟨rfl, [], hs, none, none, none, rfl, rfl, (fun _ h => nomatch h), rfl⟩
  · rintro y r ρ M' ⟨rfl, ls, rs, x5, x6, x7, e1, e2, hb, rfl⟩ F hF
    cases rs with
    | nil => cases e2
    | cons h rs =>
      injection e2 with e2 e3
      subst e2 e3
      have hh := ho.2.2 h (by rw [e1]; simp)
      have hl6 : ls.length ≤ 6 := by
        have := congrArg List.length e1
        rw [List.length_append, List.length_map] at this
        have := ho.2.1
        omega
      refine sgBody_ok (C := C) hm hh.1 hh.2 n0 (by omega) (by rw [List.length_map]; omega) fun s wy s0 s1 => ?_
      refine hF _ _ ⟨rfl, ls ++ [(h, s)], rs, some (.val (.int h)), some (.val (.int s)), some (.val (.int wy)), by rw [e1, List.map_append, List.append_assoc]; rfl, rfl, fun p hp => ?_, by rw [List.map_append]; rfl⟩
      rcases List.mem_append.mp hp with hp | hp
      · exact hb p hp
      · rw [List.mem_singleton.mp hp]; exact ⟨s0, s1⟩
  · rintro ρ M' ⟨rfl, ls, rs, x5, x6, x7, e1, e2, hb, rfl⟩
    have e0 : rs = [] := List.map_eq_nil_iff.mp e2.symm
    rw [e0, List.append_nil] at e1
    have hlk : LkOk ls := ⟨fun z => ho.1 (by rw [e1, z]; rfl), by have := ho.2.1; rw [e1, List.length_map] at this; exact this, fun p hp => ⟨ho.2.2 p.1 (by rw [e1]; exact List.mem_map.mpr ⟨p, hp, rfl⟩), hb p hp⟩⟩
    exact ⟨M', MLe.refl _, hq ls hlk (by rw [roof_map, ← e1]; exact hl)⟩
end Px
set_option Elab.async false
set_option linter.all false
set_option maxRecDepth 100000
namespace Px
open PySem PySem.Spec PyProof.Rows L2
theorem rngZ (n : Nat) : rngD 0 n = (zxs n).map D.int := by
  unfold rngD zxs
  rw [List.map_map]
  refine List.map_congr_left fun i _ => ?_
  show D.int (0 + (i : Int)) = D.int i
  rw [Int.zero_add]
section
variable {C : Cl} {w : PWi} {P : PEnds} {M : Mm} {a : Addr} {ls : List (Int × Int)}
end
end Px
set_option Elab.async false
set_option linter.all false
set_option maxRecDepth 100000
namespace Px
open PySem PySem.Spec PyProof.Rows L2
theorem toSp_wk {K : PySem.W.Frag} {n : Nat} {sp sp' : PSp} (h : ∀ ds M q e, sp' ds M q e → sp ds M q e) {vs : List V} {H : Hp} {Q : VK} {E : XK} (z : toSp K n sp' vs H Q E) : toSp K n sp vs H Q E := by
  obtain ⟨g, F, M, O, ds, q, e, h1, h2, h3, h4, h5⟩ := z
  exact ⟨g, F, M, O, ds, q, e, h1, h2, h3, h _ _ _ _ h4, h5⟩
theorem FnG.wk {P : Program} {w : World} {K : PySem.W.Frag} {mg : Str → Option Value} {base : Heap} {k n : Nat} {f : Addr} {fd : FuncData} {ps : List Str} {sp sp' : PSp} (Fg : FnG P w K mg base k f fd ps (toSp K n sp)) (h : ∀ ds M q e, sp' ds M q e → sp ds M q e) :
    FnG P w K mg base k f fd ps (toSp K n sp') := ⟨fun vs H Q E z => Fg.len vs H Q E (toSp_wk h z), fun A o s H a us vs Q E r g e b v z => Fg.run A o s H a us vs Q E r g e b v (toSp_wk h z)⟩
end Px
set_option Elab.async false
set_option linter.all false
set_option maxRecDepth 100000
namespace Px
open PySem PySem.Spec PyProof.Rows L2
def ltr (c : D) : Bool := match c with
  | .str z => !(Builtin.Str.occurrences "abcdefghijklmnopqrstuvwxyz" z 0 ("abcdefghijklmnopqrstuvwxyz" : Str).length 1).isEmpty
  | _ => false
def isWordD (d : D) : Bool := match d with
  | .str s => decide (1 ≤ s.length) && decide (s.length ≤ 8) && (chS s).all ltr
  | _ => false
end Px
set_option Elab.async false
set_option linter.all false
set_option maxRecDepth 100000
namespace Px
open PySem PySem.Spec PyProof.Rows L2
def ascD : Int → Int → List D → Bool
  | _, _, [] => true
  | last, half, d :: r => btwD d (last + 1) half && (match d with | .int i => ascD i half r | _ => false)
def areEndsD (d : D) (half : Int) : Bool := match d with
  | .tup l => decide (l.length ≤ 12) && ascD (-1) half l
  | _ => false
end Px
set_option Elab.async false
set_option linter.all false
set_option maxRecDepth 100000
namespace Px
open PySem PySem.Spec PyProof.Rows L2
def isTellD : List D → Bool
  | [.str s, x] => decide (s = "tell") && isWordD x
  | _ => false
def isLookD (many : Int) : List D → Bool
  | [.str s, .int h, .tup e, .tup g] => decide (s = "look") && (btwD (.int h) 1 1000 && (areEndsD (.tup e) h && (decide (g.length = 2 * e.length + 1) && g.all fun d => btwD d 0 (many - 1))))
  | _ => false
def isRowD (d : D) (many : Int) : Bool := match d with
  | .tup l => isTellD l || isLookD many l
  | _ => false
theorem SOk.len {s : Str} (h : SOk s) : s.length ≤ 211 := by
  have := h.2.2
  simp only [PyData.weight] at this
  exact this
theorem Gd.str {L B n : Nat} {s : Str} (h : Gd L B n (.str s)) : SOk s := by cases n <;> (simp only [Gd] at h; exact h)
end Px
set_option Elab.async false
set_option linter.all false
set_option maxRecDepth 100000
namespace Px
open PySem PySem.Spec PyProof.Rows L2
def halfOf : D → Option Int
  | .tup (.str s :: .int h :: _) => if s = "look" then some h else none
  | _ => none
def ascL (ns : List Int) : List Int := ((List.range 1001).map fun i : Nat => (i : Int)).filter fun k => decide (k ∈ ns)
def hvL (l : List D) : List Int := l.filterMap halfOf
def hvs (l : List D) : List Int := ascL (hvL l)
def fstBad (many : Int) : Nat → List D → Option Nat
  | _, [] => none
  | i, d :: r => if i = 20 ∨ isRowD d many = false then some i else fstBad many (i + 1) r
def wrRows (d : D) : Option Nat := match d with
  | .tup [] => some 0
  | .tup l => fstBad l.length 0 l
  | _ => some 0
def GdA (d : D) : Prop := ∃ L B n, Gd L B n d ∧ L ≤ 100000
theorem GdA.plain {d : D} (h : GdA d) : Px.plain d = true := by obtain ⟨L, B, n, h, _⟩ := h; exact h.plain
theorem GdA.tup {l : List D} (h : GdA (.tup l)) : l.length ≤ 100000 ∧ ∀ x ∈ l, GdA x := by
  obtain ⟨L, B, n, h, hL⟩ := h
  obtain ⟨m, _, h1, h2⟩ := h.tup
  exact ⟨by omega, fun x hx => ⟨L, B, m, h2 x hx, hL⟩⟩
theorem GdA.lst {l : List D} (h : GdA (.lst l)) : l.length ≤ 100000 ∧ ∀ x ∈ l, GdA x := by
  obtain ⟨L, B, n, h, hL⟩ := h
  obtain ⟨m, _, h1, h2⟩ := h.lst
  exact ⟨by omega, fun x hx => ⟨L, B, m, h2 x hx, hL⟩⟩
structure RowsOk (l : List D) : Prop where
  ne : l ≠ []
  len : l.length ≤ 20
  row : ∀ d ∈ l, isRowD d l.length = true
theorem RowsOk.wr {l : List D} (h : RowsOk l) : wrRows (.tup l) = none := by
  have key : ∀ (r : List D) (i : Nat), i + r.length ≤ 20 → (∀ d ∈ r, isRowD d l.length = true) → fstBad l.length i r = none := by
    intro r
    induction r with
    | nil => intro i _ _; rfl
    | cons d r ih =>
      intro i h1 h2
      rw [List.length_cons] at h1
      simp only [fstBad]
      rw [if_neg]
      · exact ih (i + 1) (by omega) fun x hx => h2 x (List.mem_cons_of_mem _ hx)
      · rintro (z | z)
        · omega
        · rw [h2 d List.mem_cons_self] at z; cases z
  have ne := h.ne
  cases l with
  | nil => exact absurd rfl ne
  | cons d r => exact key _ 0 (by have := h.len; omega) h.row
end Px
set_option Elab.async false
set_option linter.all false
set_option maxRecDepth 100000
namespace Px
open PySem PySem.Spec PyProof.Rows L2
mutual
theorem eqv_refl : ∀ d : D, PyData.eqv (toPy d) (toPy d) = true
  | .non => rfl
  | .bl b => by cases b <;> rfl
  | .int i => decide_eq_true (rfl : i = i)
  | .str s => decide_eq_true (rfl : s = s)
  | .tup l => eqvL_refl l
  | .lst l => eqvL_refl l
  | .dic _ _ => rfl
  | .obj _ _ _ => rfl
  | .raw _ => rfl
  | .scr _ => rfl
  | .clo _ _ _ _ _ => rfl
  | .fnc _ _ _ _ => rfl
  | .exv _ _ _ _ _ => rfl
theorem eqvL_refl : ∀ l : List D, PyData.eqvAll (toPyL l) (toPyL l) = true
  | [] => rfl
  | d :: r => by
    show (PyData.eqv (toPy d) (toPy d) && PyData.eqvAll (toPyL r) (toPyL r)) = true
    rw [eqv_refl d, eqvL_refl r]; rfl
end
end Px
set_option Elab.async false
set_option linter.all false
set_option maxRecDepth 100000
namespace Px
open PySem PySem.Spec PyProof.Rows L2
theorem ltr_alph : ∀ c : Nat, 97 ≤ c → c ≤ 122 → ltr (.str ⟨#[c]⟩) = true := by
  have key : ∀ i : Fin 26, ltr (.str ⟨#[97 + i.val]⟩) = true := by decide +kernel
  intro c h0 h1
  have := key ⟨c - 97, by omega⟩
  have e : 97 + (c - 97) = c := by omega
  simpa only [e] using this
def IsW (s : Str) : Prop := 1 ≤ s.cps.size ∧ s.cps.size ≤ 8 ∧ ∀ c ∈ s.cps.toList, 97 ≤ c ∧ c ≤ 122
theorem IsW.word {s : Str} (h : IsW s) : isWordD (.str s) = true := by
  show (decide (1 ≤ s.cps.size) && decide (s.cps.size ≤ 8) && (chS s).all ltr) = true
  rw [decide_eq_true h.1, decide_eq_true h.2.1, Bool.true_and, Bool.true_and, List.all_eq_true]
  intro y hy
  obtain ⟨c, hc, rfl⟩ := List.mem_map.mp hy
  exact ltr_alph c (h.2.2 c hc).1 (h.2.2 c hc).2
end Px
set_option Elab.async false
set_option linter.all false
set_option maxRecDepth 100000
namespace Px
open PySem PySem.Spec PyProof.Rows L2
section
variable {X : Cx}
end
section
variable {X : Cx} {W : WX} {K : PySem.W.Frag} {a b : Expr} {pa pb : PTE} {pos : Pos}
end
end Px
set_option Elab.async false
set_option linter.all false
set_option maxRecDepth 100000
namespace Px
open PySem PySem.Spec PyProof.Rows L2
def sp__law_gcd (C : Cl) : PSp := sp_divisor C
def rd__law_gcd (C : Cl) : PTS := (dSeq (dWhile (dTst (dOp fGt (dVar 1) (dC (.int 0)))) (dPar 0 1 (dCons (dVar 1) (dCons (dOp fMod (dVar 0) (dVar 1)) dNil))))
    (dRet (dVar 0)))
theorem sh__law_gcd (C : Cl) : Shows (sp__law_gcd C) 2 (rd__law_gcd C) := sh_divisor C
def bdPr (p r : Int × Int) : D := .tup [.bl (decide ((p.2 - r.2) % (2 * g0 p.1 r.1) = 0)), .bl (decide ((p.2 + r.2) % (2 * g0 p.1 r.1) = 0))]
def sp__law_bond (C : Cl) : PSp := fun ds M q _ => ar2 ds fun x y => ∃ p r, x = lkD p ∧ y = lkD r ∧ okL p ∧ okL r ∧ q (bdPr p r) M
def rd__law_bond (C : Cl) : PTS := (dSeq (dSet 2 (dOp fMul (dC (.int 2)) (dCall (sp__law_gcd C) [] (dCons (dOp fIx (dVar 0) (dC (.int 0))) (dCons (dOp fIx (dVar 1) (dC (.int 0))) dNil)))))
    (dRet (dTup (dCons (dOp fEq (dOp fMod (dOp fSub (dOp fIx (dVar 0) (dC (.int 1))) (dOp fIx (dVar 1) (dC (.int 1)))) (dVar 2)) (dC (.int 0))) (dCons (dOp fEq (dOp fMod (dOp fAdd (dOp fIx (dVar 0) (dC (.int 1))) (dOp fIx (dVar 1) (dC (.int 1)))) (dVar 2)) (dC (.int 0))) dNil)))))
theorem sh__law_bond (C : Cl) : Shows (sp__law_bond C) 3 (rd__law_bond C) := by
  intro ds M q e h
  obtain ⟨x, y, rfl, p, r, rfl, rfl, hp, hr, hq⟩ := ar2_of h
  obtain ⟨⟨p1, p2⟩, p3, p4⟩ := hp
  obtain ⟨⟨r1, r2⟩, r3, r4⟩ := hr
  have gp := g0_pos (x := p.1) (show 0 < r.1 by omega)
  have gl := g0_le (x := p.1) (show 0 < r.1 by omega)
  have e2 : Ev (dOp fMul (dC (.int 2)) (dCall (sp__law_gcd C) [] (dCons (dOp fIx (dVar 0) (dC (.int 0))) (dCons (dOp fIx (dVar 1) (dC (.int 0))) dNil)))) (fun cls fs x M' => ∃ M2, MLe M2 M' ∧ e cls fs M2) (startR 3 [lkD p, lkD r]) M (.int (2 * g0 p.1 r.1)) :=
    ev_op ev_c (ev_call (eva_cons (ev_op (ev_var rfl) ev_c (o2_ixT atI_01.1)) (eva_cons (ev_op (ev_var rfl) ev_c (o2_ixT atI_01.1)) eva_nil)) fun q e hq => ⟨by omega, by omega, hq⟩) (o2_mul (mul_small (by decide) (by decide) (by omega) (by omega)))
  refine sqSet e2 ?_
  have ed : ∀ {ρ : Rho} {i : Nat} {p : Int × Int}, gt ρ i = some (.val (lkD p)) → Ev (dOp fIx (dVar i) (dC (.int 1))) (fun cls fs x M' => ∃ M2, MLe M2 M' ∧ e cls fs M2) ρ M (.int p.2) := fun h => ev_op (ev_var h) ev_c (o2_ixT atI_01.2)
  have ha : EvA (dCons (dOp fEq (dOp fMod (dOp fSub (dOp fIx (dVar 0) (dC (.int 1))) (dOp fIx (dVar 1) (dC (.int 1)))) (dVar 2)) (dC (.int 0))) (dCons (dOp fEq (dOp fMod (dOp fAdd (dOp fIx (dVar 0) (dC (.int 1))) (dOp fIx (dVar 1) (dC (.int 1)))) (dVar 2)) (dC (.int 0))) dNil)) (fun cls fs x M' => ∃ M2, MLe M2 M' ∧ e cls fs M2) [some (.val (lkD p)), some (.val (lkD r)), some (.val (.int (2 * g0 p.1 r.1)))] M
      [.bl (decide ((p.2 - r.2) % (2 * g0 p.1 r.1) = 0)), .bl (decide ((p.2 + r.2) % (2 * g0 p.1 r.1) = 0))] :=
    eva_cons (ev_op (ev_op (ev_op (ed rfl) (ed rfl) o2_sub) (ev_var rfl) (o2_mod (by omega))) ev_c o2_eqI) (eva_cons (ev_op (ev_op (ev_op (ed rfl) (ed rfl) o2_add) (ev_var rfl) (o2_mod (by omega))) ev_c o2_eqI) eva_nil)
  exact ret_ev (ev_tup ha (by show 2 ≤ 1000000; decide)) ⟨M, MLe.refl _, hq⟩
def bdD (ls : List (Int × Int)) (p : Int × Int) : D := .tup [.bl (alk ls p.1.toNat p.2.toNat), .bl (unl ls p.1.toNat p.2.toNat)]
theorem bdPr_is {ls : List (Int × Int)} {i j : Nat} (hi : i < ls.length) (hj : j < ls.length) : bdPr ls[i] ls[j] = .tup [.bl (alk ls i j), .bl (unl ls i j)] := by
  unfold bdPr alk unl stL
  rw [(hL_at hi).1, (hL_at hj).1, (hL_at hi).2, (hL_at hj).2]
section
variable {C : Cl} {w : PWi} {ρ : Rho} {M : Mm} {pa pb pc : PTE} {ls : List (Int × Int)} {d : D} {x y : Int}
theorem ev_bondL (h : LkOk ls) (hd : isLks d ls) (hx : 0 ≤ x ∧ x < ls.length) (hy : 0 ≤ y ∧ y < ls.length) (ha : Ev pa w ρ M d) (hb : Ev pb w ρ M (.int x)) (hc : Ev pc w ρ M (.int y)) :
    Ev (dCall (sp__law_bond C) [] (dCons (dOp fIx pa pb) (dCons (dOp fIx pa pc) dNil))) w ρ M (bdD ls (x, y)) := by
  have ex : (x.toNat : Int) = x := by omega
  have ey : (y.toNat : Int) = y := by omega
  have hi : x.toNat < ls.length := by omega
  have hj : y.toNat < ls.length := by omega
  exact ev_call (eva_cons (ev_at hd hi ha (by rw [ex]; exact hb)) (eva_cons (ev_at hd hj ha (by rw [ey]; exact hc)) eva_nil)) fun q e hq => ⟨_, _, rfl, rfl, h.okL hi, h.okL hj, by rw [bdPr_is hi hj]; exact hq⟩
end
theorem bdD_ok (ls : List (Int × Int)) (p : Int × Int) : okD 50 (bdD ls p) = true := rfl
theorem bdD_ff (ls : List (Int × Int)) (p : Int × Int) : eqD (bdD ls p) (.tup [.bl false, .bl false]) = clh ls p.1.toNat p.2.toNat := by
  unfold bdD clh
  cases alk ls p.1.toNat p.2.toNat <;> cases unl ls p.1.toNat p.2.toNat <;> rfl
theorem o2_eqBB (a b : Bool) : Op2 fEq (.bl a) (.bl b) (.bl (a == b)) := fun k hk => ⟨rfl, by
  have : eqD (.bl a) (.bl b) = (a == b) := by cases a <;> cases b <;> rfl
  rw [this]; exact hk⟩
end Px
set_option Elab.async false
set_option linter.all false
set_option maxRecDepth 100000
namespace Px
open PySem PySem.Spec PyProof.Rows L2
section
variable {C : Cl} {w : PWi} {ρ : Rho} {M : Mm} {pa pb : PTE} {f g : Int → Bool} {s o : D}
end
end Px
set_option Elab.async false
set_option linter.all false
set_option maxRecDepth 100000
namespace Px
open PySem PySem.Spec PyProof.Rows L2
structure Shs (n w : Nat) (d : D) : Prop where
  ok : okD n d = true
  sh : PyData.showable (toPy d) = true
  lv : PyData.leavesShort 8 (toPy d) = true
  wt : PyData.weight (toPy d) ≤ w
structure ShsL (n w : Nat) (l : List D) : Prop where
  ok : l.all (okD n) = true
  sh : PyData.showableAll (toPyL l) = true
  lv : PyData.leavesShortAll 8 (toPyL l) = true
  wt : PyData.weightAll (toPyL l) ≤ w
theorem Shs.int {n : Nat} {i : Int} (h0 : 0 ≤ i) (h1 : i ≤ 8000) : Shs n 13 (.int i) := by
  have a : i.natAbs < 10 ^ 4 := by omega
  have a2 : i.natAbs < 2 ^ 13 := by omega
  refine ⟨by cases n <;> rfl, ?_, ?_, ?_⟩
  · show PyData.showable (.int i) = true
    simp only [PyData.showable]
    exact decide_eq_true (PySem.Flt.log2_lt_of (by decide) (Nat.lt_of_lt_of_le a2 (Nat.pow_le_pow_right (by decide) (by decide))))
  · have := int_text_length_le10 (a := i) (k := 4) (by decide) a
    show decide _ = true
    refine decide_eq_true ?_
    simp only [PyData.shown]
    rw [PySem.ofString_length]
    omega
  · have := PySem.Flt.log2_lt_of (by decide) a2
    show PyData.weight (.int i) ≤ 13
    simp only [PyData.weight]
    split <;> omega
theorem Shs.bl {n : Nat} {b : Bool} : Shs n 0 (.bl b) := ⟨by cases n <;> rfl, rfl, rfl, by show PyData.weight (.bool b) ≤ 0; simp [PyData.weight]⟩
theorem ShsL.nil {n : Nat} : ShsL n 0 [] := ⟨rfl, rfl, rfl, by simp [toPyL, PyData.weightAll]⟩
theorem ShsL.cons {n a b : Nat} {d : D} {l : List D} (h : Shs n a d) (k : ShsL n b l) : ShsL n (a + 1 + b) (d :: l) := by
  refine ⟨by rw [List.all_cons, h.ok, k.ok]; rfl, ?_, ?_, ?_⟩
  · show (PyData.showable (toPy d) && PyData.showableAll (toPyL l)) = true
    rw [h.sh, k.sh]; rfl
  · show (PyData.leavesShort 8 (toPy d) && PyData.leavesShortAll 8 (toPyL l)) = true
    rw [h.lv, k.lv]; rfl
  · show PyData.weight (toPy d) + 1 + PyData.weightAll (toPyL l) ≤ _
    have := h.wt; have := k.wt; omega
theorem ShsL.all {n w : Nat} : ∀ {l : List D}, (∀ d ∈ l, Shs n w d) → ShsL n ((w + 1) * l.length) l
  | [], _ => .nil
  | d :: r, h => by
    have := ShsL.cons (h d List.mem_cons_self) (ShsL.all fun x q => h x (List.mem_cons_of_mem _ q))
    have e : (w + 1) * (d :: r).length = w + 1 + (w + 1) * r.length := by rw [List.length_cons, Nat.mul_succ]; omega
    rw [e]; exact this
theorem Shs.tup {n w : Nat} {l : List D} (h : ShsL n w l) : Shs (n + 1) w (.tup l) := ⟨h.ok, h.sh, h.lv, h.wt⟩
theorem Shs.lst {n w : Nat} {l : List D} (h : ShsL n w l) : Shs (n + 1) w (.lst l) := ⟨h.ok, h.sh, h.lv, h.wt⟩
theorem ShsL.up {n w w' : Nat} {l : List D} (h : ShsL n w l) (hw : w ≤ w') : ShsL n w' l := ⟨h.ok, h.sh, h.lv, Nat.le_trans h.wt hw⟩
theorem Shs.show {n w : Nat} {d : D} (h : Shs n w d) (hw : w ≤ 1600000) : showOk (toPy d) := by
  refine ⟨h.sh, ?_⟩
  have h1 := PyData.shown_le 8 (by decide) _ h.lv
  have h2 := Nat.mul_le_mul_left (8 + 2) (Nat.le_trans h.wt hw)
  omega
end Px
set_option Elab.async false
set_option linter.all false
set_option maxRecDepth 100000
namespace Px
open PySem PySem.Spec PyProof.Rows L2
section
variable {C : Cl} {w : PWi} {ρ : Rho} {M : Mm} {pa pb : PTE} {f g : Int → Bool} {s o : D} {q : PQ}
end
end Px
set_option Elab.async false
set_option linter.all false
set_option maxRecDepth 100000
namespace Px
open PySem PySem.Spec PyProof.Rows L2
end Px
set_option Elab.async false
set_option linter.all false
set_option maxRecDepth 100000
namespace Px
open PySem PySem.Spec PyProof.Rows L2
structure EvP (C : Cl) (c : Int) (pe : PTE) (w : PWi) (ρ : Rho) (M : Mm) (F : Int → Bool) : Prop where
  ev : Ev pe w ρ M (patD C F)
  per : Per c F
  le : c ≤ 5040
section
variable {C : Cl} {c : Int} {w : PWi} {ρ : Rho} {M : Mm} {pa pb pl ph : PTE} {F G : Int → Bool} {q : PQ}
theorem EvP.is (h : EvP C c pa w ρ M F) : IsPat C (patD C F) F := isPat_of h.per h.le
end
end Px
set_option Elab.async false
set_option linter.all false
set_option maxRecDepth 100000
namespace Px
open PySem PySem.Spec PyProof.Rows L2
theorem LkOk.dv {ls : List (Int × Int)} (h : LkOk ls) : ∀ p ∈ ls, 0 < p.1 ∧ p.1 ∣ roofL ls := fun p hp => by
  refine ⟨by have := h.2.2 p hp; omega, ?_⟩
  exact (lcmL_dvd h.lk.posL).mp (Int.dvd_refl _) _ (List.mem_map.mpr ⟨p, hp, rfl⟩)
theorem near_rg {h x : Int} (hh : 0 < h) : 0 ≤ near (2 * h) x ∧ near (2 * h) x ≤ h := by
  have a := Int.emod_nonneg x (show (2 * h) ≠ 0 by omega)
  have b := Int.emod_lt_of_pos x (show 0 < 2 * h by omega)
  unfold near
  split <;> omega
end Px
set_option Elab.async false
set_option linter.all false
set_option maxRecDepth 100000
namespace Px
open PySem PySem.Spec PyProof.Rows L2
section
variable {C : Cl} {w : PWi} {P : PEnds} {ρ : Rho} {M : Mm} {r : PTS} {pa : PTE} {ls : List (Int × Int)} {d : D}
end
end Px
set_option Elab.async false
set_option linter.all false
set_option maxRecDepth 100000
namespace Px
open PySem PySem.Spec PyProof.Rows L2
section
variable {C : Cl} {c : Int} {w : PWi} {ρ : Rho} {M : Mm} {pa pb : PTE} {F : Int → Bool} {a b : Int}
end
def EvGA (pl : PTA) (w : PWi) (ρ : Rho) (M : Mm) (G : List D → Prop) : Prop := ∀ q : List D → Mm → Prop, (∀ l, G l → q l M) → pl w ρ M q
theorem evg_lc {w : PWi} {ρ : Rho} {M : Mm} {pl : PTA} {G : List D → Prop} (h : EvGA pl w ρ M G) : EvG (dL pl) w ρ M (fun z => ∃ l, z = .lst l ∧ G l) := fun q hq => h _ fun l hl => hq _ ⟨l, rfl, hl⟩
abbrev nv (o : Option D) : Option Sv := match o with | some d => some (.val d) | none => none
section
variable {C : Cl} {w : PWi} {P : PEnds} {M : Mm} {a : Addr} {ls : List (Int × Int)}
end
end Px
set_option Elab.async false
set_option linter.all false
set_option maxRecDepth 100000
namespace Px
open PySem PySem.Spec PyProof.Rows L2
theorem forR1_evg {w : PWi} {P : PEnds} {ρ : Rho} {M : Mm} {pa : PTE} {gd : PTG} {p : PTS} {G : D → Prop} (h : EvG pa w ρ M G) (k : ∀ d, G d → ∃ n : Int, d = .int n ∧ (-1000000 ≤ n ∧ n ≤ 1000000) ∧ forR gd p w (rngD 0 n.toNat) P ρ M) : dFor (iR1 pa) gd p w P ρ M := h _ fun d hd => by
  obtain ⟨n, rfl, b, k⟩ := k d hd
  exact ⟨b.1, b.2, k⟩
section
variable {C : Cl} {w : PWi} {P : PEnds} {M : Mm} {a : Addr} {x3 x4 : Option Sv} {b : Int} {L : List D}
end
end Px
set_option Elab.async false
set_option linter.all false
set_option maxRecDepth 100000
namespace Px
open PySem PySem.Spec PyProof.Rows L2
end Px
set_option Elab.async false
set_option linter.all false
set_option maxRecDepth 100000
namespace Px
open PySem PySem.Spec PyProof.Rows L2
section
variable {X : Cx} {tg : Expr}
end
section
variable {X : Cx} {W : WX} {tg : Expr} {a b : Expr} {pa pb : PTE} {p pos : Pos}
end
end Px
set_option Elab.async false
set_option linter.all false
set_option maxRecDepth 100000
namespace Px
open PySem PySem.Spec PyProof.Rows L2
section
variable {C : Cl} {w : PWi} {P : PEnds} {ρ : Rho} {M : Mm} {a : Addr} {pa pb : PTE}
end
section
variable {C : Cl} {w : PWi} {ρ : Rho} {M : Mm} {pa pb : PTE} {ls : List (Int × Int)} {n j : Int}
end
end Px
set_option Elab.async false
set_option linter.all false
set_option maxRecDepth 100000
namespace Px
open PySem PySem.Spec PyProof.Rows L2
section
variable {X : Cx} {W : WX} {a e : Expr} {pa pe : PTE} {p p2 pos : Pos} {x2 : Str}
end
section
variable {K : PySem.W.Frag} {D : Addr} {T : String} {b : Bool}
end
end Px
set_option Elab.async false
set_option linter.all false
set_option maxRecDepth 100000
namespace Px
open PySem PySem.Spec PyProof.Rows L2
abbrev LamT := Arguments × Expr × Scope
section
variable {X : Cx} {W : WX} {c P : Addr} {qn : Str} {prm : Arguments} {bd : Expr} {scp : Scope} {lp : Pos} {Ls : List LamT} {k : Nat}
end
section
variable {B : Cx} {tg elt iter : Expr} {ifs : List Expr} {scope : Scope} {pos : Pos} {g : TG} {tt : TT} {te : TE} {vs : List Nat} {σ : L2.St} {J : It} {D it : Addr} {fp : List Addr} {tn : Nat → Heap → Prop} {Q : VK} {W : Nat → Nat → Hp → Prop}
end
section
variable {X : Cx} {W : WX}
end
end Px
set_option Elab.async false
set_option linter.all false
set_option maxRecDepth 100000
namespace Px
open PySem PySem.Spec PyProof.Rows L2
section
variable {X : Cx} {k l : Nat} {g : Addr} {fd : FuncData} {a x y qual qn : Str} {stm : Stmt} {N : List Str} {TT : PC → PC} {scope : Scope} {p p2 pos : Pos} {Ls : List LamT} {pbs : List PTE} {vs : List Nat}
end
section
variable {X : Cx} {W : WX} {tg elt iter : Expr} {scope : Scope} {own : List (Str × Nat)} {pos : Pos} {is : List Nat} {pl : PTA} {gd : PTG} {te : PTE}
end
end Px
set_option Elab.async false
set_option linter.all false
set_option maxRecDepth 100000
namespace Px
open PySem PySem.Spec PyProof.Rows L2
section
variable {C : Cl} {M : Mm} {q : PQ} {e : PX} {P : PEnds} {n : Nat} {d s : D} {r : List D} {rest rest2 : PTS}
end
end Px
set_option Elab.async false
set_option linter.all false
set_option maxRecDepth 100000
namespace Px
open PySem PySem.Spec PyProof.Rows L2
abbrev noM : Mm := fun _ => none
abbrev noO : Own := fun _ => none
section
variable {K : PySem.W.Frag} {g : Gh} {σ : L2.St} {H F : Hp} {ρ : Rho} {M : Mm} {O : Own} {b : Addr}
theorem lent_wd0 (A : Ab K g σ H ρ M F O) : Wd K ⟨H, lentF σ ρ H F, fun b => ∃ m, noO b = some (.obj m), []⟩ H noM (lentF σ ρ H F) noO :=
  { sub := fun b o e => lent_sub A b o e, ext0 := Same.refl _, new := fun b o e => .inl e, frm := fun b o e _ => e, thr := fun b o e => ⟨o, e⟩
    liv := fun b o e => by cases e
    slo := fun b o e n => by cases e
    tm := fun p l e => absurd e (by simp)
    mu := fun b mo e => by cases e }
theorem lent_back0 {H' : Hp} {M' : Mm} {F' : Hp} {O' : Own} (A : Ab K g σ H ρ M F O) (B : Aft K H (lentF σ ρ H F) noO H' M' F' O') :
    Ab K g σ H' ρ M (backF σ ρ F') O ∧ Same F (backF σ ρ F') ∧ ∀ b o, F' b = some o → (∀ xs, o ≠ .lst xs) → backF σ ρ F' b = some o := by
  obtain ⟨B, _⟩ := B
  have keep : ∀ b u, H b = some u → H' b = some u := fun b u e => B.frm b u e fun ⟨m, z⟩ => by cases z
  have s1 : Same F (backF σ ρ F') := fun b o e => by
    have h := B.ext0 b o (lent_same A b o e)
    unfold backF
    rw [if_neg]
    · exact h
    · intro z
      obtain ⟨_, _, _, _, _, _, _, z2⟩ := lent_is A z
      rw [z2] at e; cases e
  have old : ∀ b o, backF σ ρ F' b = some o → F' b = some o ∧ ¬ lentA σ ρ b := fun b o e => by
    unfold backF at e
    split at e
    · cases e
    · exact ⟨e, by assumption⟩
  have from_ : ∀ b o, backF σ ρ F' b = some o → F b = some o ∨ H b = none := fun b o e => by
    obtain ⟨e, n⟩ := old b o e
    rcases B.new b o e with z | z
    · have z : lentF σ ρ H F b = some o := z
      unfold lentF at z
      rw [if_neg n] at z
      exact .inl z
    · exact .inr z
  refine ⟨?_, s1, fun b o e n => ?_⟩
  · exact { sub := fun b o e => B.sub b o (old b o e).1, ext0 := A.ext0.trans s1
            new := fun b o e => by
              rcases from_ b o e with z | z
              · exact A.new b o z
              · exact .inr (A.g0 z)
            frm := fun b o e n => keep b o (A.frm b o e n)
            thr := fun b o e => by
              obtain ⟨u, z⟩ := A.thr b o e
              exact ⟨u, keep b u z⟩
            liv := fun b u e => by
              obtain ⟨⟨x, hx⟩, hF, hg⟩ := A.liv b u e
              refine ⟨⟨x, keep b x hx⟩, ?_, hg⟩
              cases z : backF σ ρ F' b with
              | none => rfl
              | some o =>
                rcases from_ b o z with y | y
                · rw [hF] at y; cases y
                · rw [hx] at y; cases y
            slo := A.slo
            tm := fun p l e => by
              obtain ⟨xs, e1, e2, e3⟩ := A.tm p l e
              exact ⟨xs, keep p _ e1, RpL.mono s1 _ _ e2, e3⟩
            mu := fun b m e => (A.mu b m e).mono s1 fun q u e1 e2 => ⟨keep q u e1, e2⟩
            len := A.len
            sl := fun i sv e => by
              obtain ⟨v, e1, q⟩ := A.sl i sv e
              exact ⟨v, e1, q.mono s1 fun q xs e1 e2 => ⟨keep q _ e1, e2⟩⟩ }
  · unfold backF
    rw [if_neg]
    · exact e
    · intro z
      obtain ⟨i, l, xs, _, h1, _, _, _⟩ := lent_is A z
      have : lentF σ ρ H F b = some (.lst xs) := by unfold lentF; rw [if_pos z]; exact h1
      rw [B.ext0 b _ this] at e
      cases e
      exact n xs rfl
end
def dCallP (sp : PSp) (pl : PTA) : PTE := fun w ρ M q => pl w ρ M fun ds M1 => sp ds noM (fun d _ => noL d = true ∧ q d M1) fun cls fs _ => noLL (fs.map (·.2)) = true ∧ w cls fs ρ M1
section
variable {X : Cx} {W : WX} {k n : Nat} {f : Addr} {fd : FuncData} {ps : List Str} {sp : PSp} {x : Str} {p pos : Pos} {e : Expr} {es : List Expr} {pl : PTA}
theorem call_readingP {K : PySem.W.Frag} {g : Gh} {σ : L2.St} {H : Hp} {ρ : Rho} {M : Mm} {F : Hp} {O : Own} {w : PWi} {q : PQ} {ds : List D} {vs : List V} {Q : VK} (A : Ab K g σ H ρ M F O) (hw : WOk K g F W w) (r : VwL K σ ρ F ds vs) (hl : ds.length = n)
    (h : sp ds noM (fun d _ => noL d = true ∧ q d M) fun cls fs _ => noLL (fs.map (·.2)) = true ∧ w cls fs ρ M)
    (k : ∀ v H' F' O' M' d, Ab K g σ H' ρ M' F' O' → Same F F' → Rp K F' d v → q d M' → Q v H') :
    toSp K n sp vs H Q fun cls d H' => W cls d σ H' := by
  refine ⟨_, lentF σ ρ H F, _, noO, ds, _, _, by rw [← r.len, hl], lent_wd0 A, lent_vwL A r, h, fun v H' F' O' M' d B rd hq => ?_, fun cls dd H' F' O' M' fs B xk hq => ?_⟩
  · obtain ⟨hn, hq⟩ := hq
    obtain ⟨A3, s, back⟩ := lent_back0 A B
    exact k v H' _ O M d A3 s (Rp.noL back _ _ hn rd) hq
  · obtain ⟨hn, hq⟩ := hq
    obtain ⟨A3, s, back⟩ := lent_back0 A B
    refine hw cls dd σ H' ρ M _ O fs A3 s ?_ hq
    cases dd with
    | none => exact xk
    | some b =>
      obtain ⟨ys, z1, z2, z3⟩ := xk
      exact ⟨ys, back b _ z1 (fun _ z => by cases z), z2, RpL.noL back _ _ hn z3⟩
theorem de_callP (Fg : FnG X.prog X.w X.K X.mg X.base k f fd ps (toSp X.K n sp)) (hn : ps.length = n) (hlen : ∀ ds M q e, sp ds M q e → ds.length = n) (hr : Room k X.A) (hG : X.A.guards = some []) (hg : Gl X x) (hm : X.mg x = some (.ref f))
    (hk : PySem.W.keepIn X.K (.ref f) = true) (hb : Binds X.K fd ps []) (tk : Takes X W) (ha : DAO X W (e :: es) pl) (hdb : (x == ("__debug__" : Str)) = false := by decide)
    (he : starEach (e :: es) X.env = (false, eval e X.env) :: starEach es X.env := by rfl) (hpl : (backTo pos (starEach es X.env)).any (·.1) = false := by rfl) : DE X W (.Call (.Name x p) (e :: es) [] pos) (dCallP sp pl) := by
  refine ⟨fun pins s σ H Q I ⟨g, ρ, M, F, O, q, w, A, pr, hw, kk⟩ => ?_⟩
  refine wpAny_Call_Name_kw (ld_glob I hg hm ?_ hdb)
  refine PySem.W.callWith_K (h₀ := X.base) I.ok.mod.kin hk (thn (ha.run pos pins s σ H (fun vs H1 => toSp X.K n sp vs H1 Q fun cls d H' => W cls d σ H') I ?_) fun us s1 hh => ?_) he hpl
  · exact ⟨g, ρ, M, F, O, _, w, A, pr, hw, fun vs H1 F1 O1 M1 d1 A1 s1 r1 q1 => call_readingP A1 (hw.mono s1) r1 (hlen _ _ _ _ q1) q1 fun v H2 F2 O2 M2 d2 A2 s2 r2 q2 => kk v H2 F2 O2 M2 d2 A2 (s1.trans s2) r2 q2⟩
  · obtain ⟨vs, H1, I1, r, q1⟩ := hh
    refine ⟨I1.kIn, ?_⟩
    have := run_g (dvs := []) Fg hr hG hb .nil tk I1 r (by rw [List.append_nil]; exact q1)
    exact this
end
end Px
set_option Elab.async false
set_option linter.all false
set_option maxRecDepth 100000
namespace Px
open PySem PySem.Spec PyProof.Rows L2
abbrev PSpN := List D → Mm → PQ → (List D → Mm → Prop) → PX → Prop
def toSpN (K : PySem.W.Frag) (n : Nat) (sp : PSpN) : Sp := fun vs H Q E => ∃ g F M O ds q ql e, vs.length = n ∧ Wd K g H M F O ∧ RpL K F ds vs ∧ sp ds M q ql e ∧
  (∀ v H' F' O' M' d, Aft K H F O H' M' F' O' → Rp K F' d v → q d M' → Q v H') ∧
  (∀ a xs H' F' O' M' ls, Aft K H F O H' M' F' O' → H' a = some (.lst xs) → RpL K F' ls xs → F' a = none → O' a = none → H a = none → ql ls M' → Q (.ref a) H') ∧
  (∀ cls dd H' F' O' M' fs, Aft K H F O H' M' F' O' → ExOk K F' dd fs → e cls fs M' → E cls dd H')
theorem toSpN_len {K : PySem.W.Frag} {n : Nat} {sp : PSpN} {vs : List V} {H : Hp} {Q : VK} {E : XK} (h : toSpN K n sp vs H Q E) : vs.length = n := by
  obtain ⟨_, _, _, _, _, _, _, _, e, _⟩ := h
  exact e
def ShowsN (sp : PSpN) (N : Nat) (p : PTS) : Prop := ∀ ds M q ql e, sp ds M q ql e →
  p (fun cls fs _ M' => ∃ M2, MLe M2 M' ∧ e cls fs M2) { nx := fun _ M' => ∃ M2, MLe M2 M' ∧ q .non M2, rt := fun d M' => ∃ M2, MLe M2 M' ∧ q d M2, rl := fun l M' => ∃ M2, MLe M2 M' ∧ ql l M2 } (startR N ds) M
section
variable {P : Program} {w : World} {K : PySem.W.Frag} {mg : Str → Option Value} {base : Heap} {k : Nat} {f : Addr} {fd : FuncData} {ps N : List Str}
theorem Fun.pokN {x qual : Str} {stm : Stmt} {n : Nat} {sp : PSpN} {p : PTS} (Fn : L2.Fun K x qual stm f fd) (S : FnScope N ps (defScope stm)) (hn : ps.length = n) (hs : ShowsN sp N.length p)
    (hbody : ∀ (cdv : Value) (A : Around) (outer : List Env) (s : Shared) (H : Hp) (E : XK), Room k (A.deeper (envOfC qual (defScope stm) s.heap.objs.size f cdv)) → A.guards = some [] →
      DSs (cxOf (L2.CX P w) P w K mg base N qual (defScope stm) f cdv A outer s H E) (WE E) (defBody stm) p) :
    FnG P w K mg base (k + 1) f fd ps (toSpN K n sp) := by
  refine Fun.gok Fn S (fun vs H Q E h => by rw [toSpN_len h, hn]) fun cdv A outer s H vs Q E hr hG hsp => ⟨_, hbody cdv A outer s H E hr hG, ?_⟩
  obtain ⟨g, F, M, O, ds, q, ql, e, _, A0, rp, hsp, hQ, hL, hE⟩ := hsp
  refine ⟨_, _, _, _, _, _, _, A0.enter (N := N) rp, hs ds M q ql e hsp, ?_, ?_, ?_, ?_, ?_, ?_⟩
  · intro cls dd σ' H' ρ' M' F' O' fs A2 s2 x2 ⟨M2, h1, h2⟩
    exact hE cls dd H' F' _ M2 fs (A2.leave h1) x2 h2
  · intro σ' H' ρ' M' F' O' A2 s2 ⟨M2, h1, h2⟩
    exact hQ .non H' F' _ M2 .non (A2.leave h1) rfl h2
  · intro v σ' H' ρ' M' F' O' d A2 s2 r2 ⟨M2, h1, h2⟩
    exact hQ v H' F' _ M2 d (A2.leave h1) r2 h2
  · intro σ' H' ρ' M' F' O' A2 s2 z; exact z.elim
  · intro σ' H' ρ' M' F' O' A2 s2 z; exact z.elim
  · intro a xs σ' H' ρ' M' F' O' ls A2 s2 e1 e2 e3 e4 e5 ⟨M2, h1, h2⟩
    exact hL a xs H' F' _ M2 ls (A2.leave h1) e1 e2 e3 (objs_none e4) e5 h2
end
abbrev PTN := PWi → Rho → Mm → PQ → (List D → Mm → Prop) → Prop
def realN (K : PySem.W.Frag) (W : WX) (p : PTN) : TE := fun σ H Q => ∃ g ρ M F O q ql w, Ab K g σ H ρ M F O ∧ p w ρ M q ql ∧ WOk K g F W w ∧
  (∀ v H' F' O' M' d, Ab K g σ H' ρ M' F' O' → Same F F' → Rp K F' d v → q d M' → Q v H') ∧
  (∀ a xs H' F' O' M' ls, Ab K g σ H' ρ M' F' O' → Same F F' → H' a = some (.lst xs) → RpL K F' ls xs → F' a = none → O' a = none → g.H0 a = none → ql ls M' → Q (.ref a) H')
abbrev DN (X : Cx) (W : WX) (e : Expr) (p : PTN) : Prop := PE X e (realN X.K W p)
def nVal (p : PTE) : PTN := fun w ρ M q _ => p w ρ M q
def nNew (p : PTA) : PTN := fun w ρ M _ ql => p w ρ M ql
def nCall (sp : PSpN) (pl : PTA) : PTN := fun w ρ M q ql => pl w ρ M fun ds M1 => sp ds M1 q ql fun cls fs M2 => w cls fs ρ M2
def nCallK (sp : PSpN) (ix : List Nat) (pl : PTA) : PTN := fun w ρ M q ql => pl w ρ M fun ds M1 => sp (pick ix ds) M1 q ql fun cls fs M2 => w cls fs ρ M2
def nMeth0 (C : Addr) (m : Str) (sp : PSpN) (po : PTE) : PTN := fun w ρ M q ql => po w ρ M fun d M1 => insOf C m d M1 ∧ sp [d] M1 q ql fun cls fs M2 => w cls fs ρ M2
def dOfN (p : PTN) : PTE := fun w ρ M q => p w ρ M q fun l M' => q (.lst l) M'
def dSetNw (i : Nat) (p : PTN) : PTS := fun w P ρ M => p w ρ M (fun d M' => P.nx (st ρ i (.val d)) M') fun l M' => P.nx (st ρ i (.own l)) M'
def dRetNw (p : PTN) : PTS := fun w P ρ M => p w ρ M P.rt P.rl
def dRetIfN (i : Nat) (pt : PTT) (p : PTN) : PTS := fun w P ρ M => pt w ρ M fun b M1 => if b = true then (match gt ρ i with | some (.own l) => P.rl l M1 | some (.val d) => P.rt d M1 | none => False) else p w ρ M1 P.rt P.rl
section
variable {X : Cx} {W : WX} {k n : Nat} {f C : Addr} {fd : FuncData} {ps ks : List Str} {sp : PSpN} {x m : Str} {p pos apos : Pos} {e o c : Expr} {es : List Expr} {pl : PTA} {po pe : PTE} {pn : PTN} {pt : PTT} {kws : List Keyword} {ix : List Nat} {i : Nat}
theorem dn_val (h : DE X W e pe) : DN X W e (nVal pe) := pe_imp h fun σ H Q ⟨g, ρ, M, F, O, q, ql, w, A, pr, hw, k1, k2⟩ => ⟨g, ρ, M, F, O, q, w, A, pr, hw, k1⟩
theorem dn_new (h : DL X W e pl) : DN X W e (nNew pl) := pe_imp h fun σ H Q ⟨g, ρ, M, F, O, q, ql, w, A, pr, hw, k1, k2⟩ => ⟨g, ρ, M, F, O, ql, w, A, pr, hw, k2⟩
theorem de_ofN (h : DN X W e pn) : DE X W e (dOfN pn) := pe_imp h fun σ H Q ⟨g, ρ, M, F, O, q, w, A, pr, hw, k⟩ =>
  ⟨g, ρ, M, F, O, q, _, w, A, pr, hw, k, fun a xs H' F' O' M' ls A' s hH r hF hO h0 q =>
    have s2 : Same F' (upd F' a (.lst xs)) := same_new hF
    k (.ref a) H' _ O' M' (.lst ls) (A'.freeze hH hF hO h0) (s.trans s2) ⟨a, xs, rfl, upd_same, RpL.mono s2 ls xs r⟩ q⟩
theorem call_readingN {K : PySem.W.Frag} {g : Gh} {σ : L2.St} {H : Hp} {ρ : Rho} {M : Mm} {F : Hp} {O : Own} {w : PWi} {q : PQ} {ql : List D → Mm → Prop} {ds : List D} {vs : List V} {Q : VK} (A : Ab K g σ H ρ M F O) (hw : WOk K g F W w)
    (r : RpL K F ds vs) (hl : ds.length = n) (h : sp ds M q ql fun cls fs M2 => w cls fs ρ M2)
    (k1 : ∀ v H' F' O' M' d, Ab K g σ H' ρ M' F' O' → Same F F' → Rp K F' d v → q d M' → Q v H')
    (k : ∀ a xs H' F' O' M' ls, Ab K g σ H' ρ M' F' O' → Same F F' → H' a = some (.lst xs) → RpL K F' ls xs → F' a = none → O' a = none → g.H0 a = none → ql ls M' → Q (.ref a) H') :
    toSpN K n sp vs H Q fun cls d H' => W cls d σ H' := by
  refine ⟨g, F, M, O, ds, q, ql, _, by rw [← hl, r.len], A.toWd, r, h, fun v H' F' O' M' d B rd hq => ?_, fun a xs H' F' O' M' ls B e1 e2 e3 e4 e5 hq => ?_, fun cls dd H' F' O' M' fs B x hq => ?_⟩
  · obtain ⟨O2, A2, s⟩ := A.after B
    exact k1 v H' F' O2 M' d A2 s rd hq
  · obtain ⟨O2, A2, s, hO⟩ := A.after2 B
    exact k a xs H' F' O2 M' ls A2 s e1 e2 e3 (by rw [hO a (A.o0 e5)]; exact e4) (A.g0 e5) hq
  · obtain ⟨O2, A2, s⟩ := A.after B
    exact hw cls dd σ H' ρ M' F' O2 fs A2 s x hq
theorem dn_call (Fg : FnG X.prog X.w X.K X.mg X.base k f fd ps (toSpN X.K n sp)) (hn : ps.length = n) (hlen : ∀ ds M q ql e, sp ds M q ql e → ds.length = n) (hr : Room k X.A) (hG : X.A.guards = some []) (hg : Gl X x) (hm : X.mg x = some (.ref f))
    (hk : PySem.W.keepIn X.K (.ref f) = true) (hb : Binds X.K fd ps []) (tk : Takes X W) (ha : DA X W (e :: es) pl) (hdb : (x == ("__debug__" : Str)) = false := by decide)
    (he : starEach (e :: es) X.env = (false, eval e X.env) :: starEach es X.env := by rfl) (hpl : (backTo pos (starEach es X.env)).any (·.1) = false := by rfl) : DN X W (.Call (.Name x p) (e :: es) [] pos) (nCall sp pl) := by
  refine ⟨fun pins s σ H Q I ⟨g, ρ, M, F, O, q, ql, w, A, pr, hw, k1, k2⟩ => ?_⟩
  refine wpAny_Call_Name_kw (ld_glob I hg hm ?_ hdb)
  refine PySem.W.callWith_K (h₀ := X.base) I.ok.mod.kin hk (thn (ha.run pos pins s σ H (fun vs H1 => toSpN X.K n sp vs H1 Q fun cls d H' => W cls d σ H') I ?_) fun us s1 hh => ?_) he hpl
  · exact ⟨g, ρ, M, F, O, _, w, A, pr, hw, fun vs H1 F1 O1 M1 d1 A1 s1 r1 q1 => call_readingN A1 (hw.mono s1) r1 (hlen _ _ _ _ _ q1) q1 (fun v H2 F2 O2 M2 d2 A2 s2 r2 q2 => k1 v H2 F2 O2 M2 d2 A2 (s1.trans s2) r2 q2) fun a xs H2 F2 O2 M2 ls A2 s2 e1 e2 e3 e4 e5 q2 => k2 a xs H2 F2 O2 M2 ls A2 (s1.trans s2) e1 e2 e3 e4 e5 q2⟩
  · obtain ⟨vs, H1, I1, r, q1⟩ := hh
    refine ⟨I1.kIn, ?_⟩
    have := run_g (dvs := []) Fg hr hG hb .nil tk I1 r (by rw [List.append_nil]; exact q1)
    exact this
theorem dn_callK (Fg : FnG X.prog X.w X.K X.mg X.base k f fd ps (toSpN X.K n sp)) (hn : ps.length = n) (hlen : ∀ ds M q ql e, sp ds M q ql e → ds.length = n) (hr : Room k X.A) (hG : X.A.guards = some []) (hg : Gl X x) (hm : X.mg x = some (.ref f))
    (hk : PySem.W.keepIn X.K (.ref f) = true) (hb : KwB X.K fd ps ks ix) (tk : Takes X W) (ha : DK X W kws pl)
    (hall : (backToKw pos (keywordEach kws X.env)).all (·.1.isSome) = true := by rfl) (hks : (backToKw pos (keywordEach kws X.env)).filterMap (·.1) = ks := by rfl) (hdb : (x == ("__debug__" : Str)) = false := by decide)
    (hpl : ((backTo pos (starEach [] X.env)).any (·.1) || (backToKw pos (keywordEach kws X.env)).any (·.1.isNone)) = false := by rfl) : DN X W (.Call (.Name x p) [] kws pos) (nCallK sp ix pl) := by
  refine ⟨fun pins s σ H Q I ⟨g, ρ, M, F, O, q, ql, w, A, pr, hw, kk1, kk2⟩ => ?_⟩
  refine wpAny_Call_Name_kw (ld_glob I hg hm ?_ hdb)
  refine PySem.W.callWith_KW0 (h₀ := X.base) I.ok.mod.kin hk hall (thn (ha.run pos pins s σ H (fun vs H1 => toSpN X.K n sp (pick ix vs) H1 Q fun cls d H' => W cls d σ H') I ?_) fun us s1 hh => ?_) hpl
  · exact ⟨g, ρ, M, F, O, _, w, A, pr, hw, fun vs H1 F1 O1 M1 d1 A1 s1 r1 q1 => call_readingN A1 (hw.mono s1) (rpl_pick r1 ix) (hlen _ _ _ _ _ q1) q1 (fun v H2 F2 O2 M2 d2 A2 s2 r2 q2 => kk1 v H2 F2 O2 M2 d2 A2 (s1.trans s2) r2 q2) fun a xs H2 F2 O2 M2 ls A2 s2 e1 e2 e3 e4 e5 q2 => kk2 a xs H2 F2 O2 M2 ls A2 (s1.trans s2) e1 e2 e3 e4 e5 q2⟩
  · obtain ⟨vs, H1, I1, r, q1⟩ := hh
    refine ⟨I1.kIn, ?_⟩
    rw [hks]
    have r2 := vals_pick r ix
    have hl : (pick ix us).length = ps.length := by rw [← r2.length]; exact Fg.len _ _ _ _ q1
    refine wpAny_call (codeAny_mono (Fg.run X.A X.stack s1 H1 ⟨[], ks.zip us⟩ (pick ix us) (pick ix vs) Q _ hr hG I1.env0 (hb s1 us I1.kIn hl) r2 q1) fun r s' hq => ?_)
    cases r with
    | error e => exact tk e s' (XE.of_call I1 (fun _ _ _ h => h) hq)
    | ok fl =>
      cases fl with
      | ret u => exact I1.after hq
      | next => exact hq.elim
      | brk => exact hq.elim
      | cont => exact hq.elim
theorem dn_meth0 {pt : Sem Bool} (hc : Cls X.K C) (hm : Meth X.K C m f) (Fg : FnG X.prog X.w X.K X.mg X.base k f fd ps (toSpN X.K n sp)) (hlen : ∀ ds M q ql e, sp ds M q ql e → ds.length = n) (hr : Room k X.A) (hG : X.A.guards = some []) (hb : Binds X.K fd ps [])
    (tk : Takes X W) (ho : DE X W o po)
    (ht : eval (.Call (.Attribute o m apos) [] [] pos) X.env = (do
      let ov ← eval o X.env
      standAt apos.atName
      let (f, first) ← holding [ov] (getMethod ov m pt)
      callWith pos f first (backTo pos (starEach [] X.env)) (backToKw pos (keywordEach [] X.env))) := by rfl) :
    DN X W (.Call (.Attribute o m apos) [] [] pos) (nMeth0 C m sp po) := by
  refine ⟨fun pins s σ H Q I ⟨g, ρ, M, F, O, q, ql, w, A, pr, hw, kk1, kk2⟩ => ?_⟩
  refine PySem.W.methodCall_KW (pl := pt) (thn (ho.run pins s σ H (fun x H1 => ∃ a dx fs, x = .ref a ∧ H1 a = some (.ins C dx fs) ∧ fs.lookup m = none ∧ toSpN X.K n sp [x] H1 Q fun cls d H' => W cls d σ H') I ?_) fun u s1 hh => ?_) ht
  · refine ⟨g, ρ, M, F, O, _, w, A, pr, hw, fun v H1 F1 O1 M1 d A1 s1 r1 q1 => ?_⟩
    obtain ⟨hi, q1⟩ := q1
    obtain ⟨a, dx, fs, e1, e2, e3⟩ := insOf_is A1 r1 hi
    refine ⟨a, dx, fs, e1, e2, e3, ?_⟩
    exact call_readingN A1 (hw.mono s1) (show RpL X.K F1 [d] [v] from ⟨v, [], rfl, r1, rfl⟩) (hlen _ _ _ _ _ q1) q1 (fun v H2 F2 O2 M2 d2 A2 s2 r2 q2 => kk1 v H2 F2 O2 M2 d2 A2 (s1.trans s2) r2 q2) fun a xs H2 F2 O2 M2 ls A2 s2 e1 e2 e3 e4 e5 q2 => kk2 a xs H2 F2 O2 M2 ls A2 (s1.trans s2) e1 e2 e3 e4 e5 q2
  · obtain ⟨x, H1, I1, rx, a, dx, fs, ex, ea, l, q1⟩ := hh
    subst ex
    have eu : u = Value.ref a := rx
    subst eu
    refine getmeth_ok I1 ea hc hm l ?_
    exact PySem.W.callWith_K0 (first := [.ref a]) I1.kIn hm.kp (run_g (us := [.ref a]) (vs := [.ref a]) (ds := []) (dvs := []) Fg hr hG hb .nil tk I1 (.cons rfl .nil) q1)
theorem ds_retNw (h : DN X W e pn) : DS X W (.Return (some e) pos) (dRetNw pn) := ps_imp (ps_ret h) fun D σ H ⟨g, ρ, M, F, O, P, w, A, h, hw, k1, k2, k3, k4, k5⟩ =>
  ⟨g, ρ, M, F, O, _, _, w, A, h, hw, fun v H' F' O' M' d A' s r q => k2 v σ H' ρ M' F' O' d A' s r q, fun a xs H' F' O' M' ls A' s e1 e2 e3 e4 e5 q => k5 a xs σ H' ρ M' F' O' ls A' s e1 e2 e3 e4 e5 q⟩
theorem ds_setNw (i : Nat) {pos' : Pos} (hN : X.N.Nodup) (he : DN X W e pn) (hi : X.N[i]? = some x := by rfl) (hx : Loc X.env.scope x := by first | exact Or.inl rfl | exact Or.inr rfl) (hs : swapsWith e (some (.Name x pos')) pos.line X.env = pure false := by rfl)
    (hf : X.fn x = true ∨ X.env.scope.names.lookup x = some .local := by first | exact .inl rfl | exact .inr rfl) : DS X W (.Assign [.Name x pos'] e pos) (dSetNw i pn) := ps_imp (ps_set hN hi hx he hs hf) fun D σ H ⟨g, ρ, M, F, O, P, w, A, h, hw, k1, _⟩ =>
  ⟨g, ρ, M, F, O, _, _, w, A, h, hw, fun v H' F' O' M' d A' s r q => k1 _ H' _ M' F' O' (A'.put r) s q, fun a xs H' F' O' M' ds A' s hH r hF hO h0 q => k1 _ H' _ M' F' _ (A'.putOwn hH r hF hO h0) s q⟩
theorem ds_retIfN (i : Nat) {x : Str} {p2 p3 : Pos} (hc : DT X W c pt) (hl : DN X W e pn) (hN : X.N[i]? = some x := by rfl) (hv : Vis X.env.scope x := by first | exact Or.inl rfl | exact Or.inr (Or.inl rfl) | exact Or.inr (Or.inr rfl)) (hd : (x == ("__debug__" : Str)) = false := by decide)
    (hcd : (x == ("__classdict__" : Str)) = false := by decide) : DS X W (.Return (some (.IfExp c (.Name x p2) e p3)) pos) (dRetIfN i pt pn) :=
  ps_imp (ps_ret (pe_ifExp hc (pv i hN hv hd hcd) hl)) fun D σ H ⟨g, ρ, M, F, O, P, w, A, h, hw, k1, k2, k3, k4, k5⟩ => by
    refine ⟨g, ρ, M, F, O, _, w, A, h, hw, fun b H' F' O' M' A' s q => ?_⟩
    cases b with
    | true =>
      rw [if_pos rfl] at q ⊢
      split at q
      · rename_i ls e
        obtain ⟨l, xs, O2, e1, e2, e3, e4, e5, e6, A2⟩ := A'.drop e
        exact ⟨.ref l, e1, k5 l xs σ H' _ M' F' O2 ls A2 s e2 e3 e4 e5 e6 q⟩
      · rename_i d e
        obtain ⟨v, e1, r⟩ := A'.sl i _ e
        exact ⟨v, e1, k2 v σ H' ρ M' F' O' d A' s r q⟩
      · exact q.elim
    | false =>
      rw [if_neg Bool.false_ne_true] at q ⊢
      exact ⟨g, ρ, M', F', O', _, _, w, A', q, hw.mono s, fun v H2 F2 O2 M2 d A2 s2 r q2 => k2 v σ H2 ρ M2 F2 O2 d A2 (s.trans s2) r q2, fun a xs H2 F2 O2 M2 ls A2 s2 e1 e2 e3 e4 e5 q2 => k5 a xs σ H2 ρ M2 F2 O2 ls A2 (s.trans s2) e1 e2 e3 e4 e5 q2⟩
end
end Px
set_option Elab.async false
set_option linter.all false
set_option maxRecDepth 100000
namespace Px
open PySem PySem.Spec PyProof.Rows L2
def dAppPop (i j : Nat) (pe : PTE) : PTS := fun w P ρ M => isOwn ρ i ∧ isOwn ρ j ∧ pe w ρ M fun d M' => ∃ (n : Int) (l : List D) (k : Nat) (y : D), d = .int n ∧ gt ρ j = some (.own l) ∧ l.length < 1000000 ∧ ixN l.length n = some k ∧ l[k]? = some y ∧
  appR (st ρ j (.own (l.eraseIdx k))) i y fun ρ' => P.nx ρ' M'
section
variable {X : Cx} {W : WX} {e : Expr} {pe : PTE} {pos p1 p2 p3 r1 r2 r3 : Pos}
theorem ds_appPop (i j : Nat) {x z : Str} (he : DE X W e pe) (hij : i ≠ j := by decide) (hN : X.N[i]? = some x := by rfl) (hv : Vis X.env.scope x := by first | exact Or.inl rfl | exact Or.inr (Or.inl rfl) | exact Or.inr (Or.inr rfl)) (hd : (x == ("__debug__" : Str)) = false := by decide)
    (hcd : (x == ("__classdict__" : Str)) = false := by decide)
    (hN2 : X.N[j]? = some z := by rfl) (hv2 : Vis X.env.scope z := by first | exact Or.inl rfl | exact Or.inr (Or.inl rfl) | exact Or.inr (Or.inr rfl)) (hd2 : (z == ("__debug__" : Str)) = false := by decide)
    (hcd2 : (z == ("__classdict__" : Str)) = false := by decide)
    (hs : starEach [.Call (.Attribute (.Name z r1) "pop" r2) [e] [] r3] X.env = (false, eval (.Call (.Attribute (.Name z r1) "pop" r2) [e] [] r3) X.env) :: starEach [] X.env := by rfl)
    (hs2 : starEach [e] X.env = (false, eval e X.env) :: starEach [] X.env := by rfl)
    (hbase : attributeBase (.Name x p1) "append" X.env (eval (.Name x p1) X.env) = eval (.Name x p1) X.env := by rfl)
    (hfew : ((backTo p3 (starEach [.Call (.Attribute (.Name z r1) "pop" r2) [e] [] r3] X.env)).all (fun x => !x.1) && (backToKw p3 (keywordEach [] X.env)).all (fun x => x.1.isSome)
      && decide ([Expr.Call (.Attribute (.Name z r1) "pop" r2) [e] [] r3].length + ([] : List Keyword).length + (if ([] : List Keyword).isEmpty then 0 else 1) < 30)) = true := by rfl)
    (hline : (p2.endLine == p3.line) = true := by rfl) (hplain : (backTo p3 (starEach [] X.env)).any (·.1) = false := by rfl)
    (hbase2 : attributeBase (.Name z r1) "pop" X.env (eval (.Name z r1) X.env) = eval (.Name z r1) X.env := by rfl)
    (hfew2 : ((backTo r3 (starEach [e] X.env)).all (fun x => !x.1) && (backToKw r3 (keywordEach [] X.env)).all (fun x => x.1.isSome)
      && decide ([e].length + ([] : List Keyword).length + (if ([] : List Keyword).isEmpty then 0 else 1) < 30)) = true := by rfl)
    (hline2 : (r2.endLine == r3.line) = true := by rfl) (hplain2 : (backTo r3 (starEach [] X.env)).any (·.1) = false := by rfl) :
    DS X W (.Expr (.Call (.Attribute (.Name x p1) "append" p2) [.Call (.Attribute (.Name z r1) "pop" r2) [e] [] r3] [] p3) pos) (dAppPop i j pe) :=
  ps_imp (ps_expr (pe_bm PySem.F.plainAttrs_list PySem.F.slot_list_append PySem.F.type_list_append mt_append (pv i hN hv hd hcd)
    (pa_cons (pe_bm PySem.F.plainAttrs_list PySem.F.slot_list_pop PySem.F.type_list_pop mt_popAt (pv j hN2 hv2 hd2 hcd2) (pa_cons he pa_nil hs2) hbase2 hfew2 hline2 hs2 hplain2) pa_nil hs) hbase hfew hline hs hplain))
    fun D σ H ⟨g, ρ, M, F, O, P, w, A, ⟨h0, h0', h⟩, hw, k1, _⟩ => by
    obtain ⟨l0, e0⟩ := isOwn_of h0
    obtain ⟨l0', e0'⟩ := isOwn_of h0'
    obtain ⟨v, hv', l, xs, rfl, hl, rl, hO⟩ := A.sl i _ e0
    obtain ⟨u, hu', m, zs, rfl, hm, rm, hOm⟩ := A.sl j _ e0'
    refine ⟨.ref l, hv', .inl ⟨rfl, xs, .inl (.inl hl)⟩, .ref m, hu', .inl ⟨rfl, zs, .inl (.inl hm)⟩, g, ρ, M, F, O, _, w, A, h, hw, fun a H1 F1 O1 M1 d A1 s1 ra q1 => ?_⟩
    obtain ⟨n, lj, k, y, rfl, ej, hz, ek, ey, q2⟩ := q1
    obtain ⟨li, ei, hz2, q3⟩ := appR_of q2
    rw [gt_st_ne hij] at ei
    obtain ⟨v2, hv2', m2, ys, ev, hm2, rm2, hOm2⟩ := A1.sl j _ ej
    rw [hu'] at hv2'
    cases hv2'
    cases ev
    obtain ⟨hs1, hs2', hs3, hs4⟩ := ixN_seq ek
    have hle := rm2.len
    obtain ⟨yv, hy, ry⟩ := rm2.get ey
    have A2 := A1.chg (xs := ys) ej hu' hOm2 (rm2.era k)
    have ei2 : gt (st ρ j (.own (lj.eraseIdx k))) i = some (.own li) := by rw [gt_st_ne hij]; exact ei
    refine ⟨m, ys, n, k, yv, rfl, by rw [show a = V.int n from ra], hm2, by omega, by omega, by rw [← hle]; exact hs1, hy, ?_⟩
    obtain ⟨v3, hv3, l3, ts, ev3, hl3, rl3, hO3⟩ := A2.sl i _ ei2
    rw [hv'] at hv3
    cases hv3
    cases ev3
    refine ⟨l, ts, yv, rfl, rfl, hl3, by rw [← rl3.len]; exact line_lt hz2, ?_⟩
    exact k1 _ _ _ _ F1 O1 (A2.chg (xs := ts) ei2 hv' hO3 (rl3.app (show RpL X.K F1 [y] [yv] from ⟨yv, [], rfl, ry, rfl⟩))) s1 q3
def dPar2LI (i j : Nat) (ns : List Int) : PTS := fun w P ρ M => ns.length ≤ 1000000 ∧ P.nx (st (st ρ i (.own [])) j (.own (ns.map .int))) M
theorem ds_par2LI (i j : Nat) {x y : Str} {es : List Expr} {ns : List Int} {px py pt p1 p2 : Pos} {kt k2 pt2} {pos : Pos} (hc : X.calm = true) (hN : X.N.Nodup) (hb : PA X es (fun _ H Q => Q (ns.map V.int) H))
    (hi : X.N[i]? = some x := by rfl) (hj : X.N[j]? = some y := by rfl) (hij : i ≠ j := by decide)
    (hx : X.env.scope.names.lookup x = some .local := by rfl) (hy : X.env.scope.names.lookup y = some .local := by rfl)
    (h1 : starEach [.List [] p1, .List es p2] X.env = (false, eval (.List [] p1) X.env) :: starEach [.List es p2] X.env := by rfl)
    (h2 : starEach [.List es p2] X.env = (false, eval (.List es p2) X.env) :: starEach [] X.env := by rfl)
    (hw : swappedStores [.Tuple [.Name x px, .Name y py] kt pt] (.Tuple [.List [] p1, .List es p2] k2 pt2) X.env = pure (some [x, y]) := by rfl)
    (hs : swapsWithSole [.Tuple [.Name x px, .Name y py] kt pt] (.Tuple [.List [] p1, .List es p2] k2 pt2) pos.line X.env = pure false := by rfl) :
    DS X W (.Assign [.Tuple [.Name x px, .Name y py] kt pt] (.Tuple [.List [] p1, .List es p2] k2 pt2) pos) (dPar2LI i j ns) :=
  ps_imp (ps_par hc hN hi hj hij hx hy (pa_cons (pe_lst pa_nil) (pa_cons (pe_lst hb) pa_nil h2) h1) hw hs)
    fun D σ H ⟨g, ρ, M, F, O, P, w, A, ⟨hn, h⟩, hw, k1, _⟩ => by
    refine ⟨by show 0 ≤ sizeLine; decide, fun t ht => ⟨by rw [List.length_map]; exact Nat.le_trans hn (by decide), fun t2 ht2 => ?_⟩⟩
    have f1 := A.f0 ht
    have o1 := A.o0 ht
    have g1 := A.g0 ht
    have A2 := A.laid (o := .lst []) ht
    have f2 := A2.f0 ht2
    have o2 := A2.o0 ht2
    have g2 := A2.g0 ht2
    have A3 := A2.laid (o := .lst (ns.map V.int)) ht2
    have ne : t ≠ t2 := fun z => by rw [z, upd_same] at ht2; cases ht2
    have A4 := (A3.putOwn (i := i) ((upd_ne ne).trans upd_same) (l := []) rfl f1 o1 g1).putOwn (i := j) (p := t2) upd_same (l := ns.map .int) (RpL.of_ints ns) f2 (by rw [if_neg (Ne.symm ne)]; exact o2) g2
    exact ⟨.ref t, .ref t2, rfl, k1 _ _ _ M F _ A4 (Same.refl F) h⟩
end
end Px
set_option Elab.async false
set_option linter.all false
set_option maxRecDepth 100000
namespace Px
open PySem PySem.Spec PyProof.Rows L2
def outN (q : PQ) (ql : List D → Mm → Prop) (d : D) (M : Mm) : Prop := match d with
  | .lst l => ql l M
  | d => q d M
theorem nCall_run {w : PWi} {ρ : Rho} {M : Mm} {sp : PSpN} {pl : PTA} {ds : List D} {q : PQ} {ql : List D → Mm → Prop} (h : EvA pl w ρ M ds) (k : ∀ e, sp ds M q ql e) : nCall sp pl w ρ M q ql := h _ (k _)
theorem retNw_run {w : PWi} {P : PEnds} {ρ : Rho} {M : Mm} {p : PTN} (k : p w ρ M P.rt P.rl) : dRetNw p w P ρ M := k
theorem setNw_run {w : PWi} {P : PEnds} {ρ : Rho} {M : Mm} {p : PTN} {i : Nat} {r : PTS} (k : p w ρ M (fun d M' => r w P (st ρ i (.val d)) M') fun l M' => r w P (st ρ i (.own l)) M') : dSeq (dSetNw i p) r w P ρ M := k
theorem nMeth0_run {w : PWi} {ρ : Rho} {M : Mm} {K : Addr} {m : Str} {sp : PSpN} {po : PTE} {q : PQ} {ql : List D → Mm → Prop} (k : po w ρ M fun d M1 => insOf K m d M1 ∧ sp [d] M1 q ql fun cls fs M2 => w cls fs ρ M2) : nMeth0 K m sp po w ρ M q ql := k
theorem newNw_run {w : PWi} {P : PEnds} {ρ : Rho} {M : Mm} {pl : PTA} {ds : List D} (h : EvA pl w ρ M ds) (hl : ds.length ≤ 1000000) (k : P.rl ds M) : dRetNw (nNew (dLst pl)) w P ρ M := h _ ⟨hl, k⟩
section
variable {ls : List (Int × Int)} {C : Cl} {w : PWi} {P : PEnds} {M : Mm} {d : D} {b1 b2 b3 : Addr} {a b : Nat} {x3 x4 x5 x6 x7 : Option Sv}
def spN_clashing_pair (C : Cl) : PSpN := fun ds M q ql _ => ar1 ds fun d => ∃ ls, LkOk ls ∧ isLks d ls ∧ outN q ql (clsD ls) M
def rdN_clashing_pair (C : Cl) : PTS := (dSeq (dFor (iR1 (dB1 fLen (dVar 0))) (gNm 1) (dFor (iR1 (dVar 1)) (gNm 2) (dIfS (dTst (dOp fEq (dCall (sp_bond C) [] (dCons (dOp fIx (dVar 0) (dVar 2)) (dCons (dOp fIx (dVar 0) (dVar 1)) dNil))) (dC (.str "clash")))) (dRetNw (nNew (dLst (dCons (dVar 2) (dCons (dVar 1) dNil))))) dNext)))
    (dRetNw (nVal (dC .non))))
theorem shN_clashing_pair (C : Cl) : ShowsN (spN_clashing_pair C) 3 (rdN_clashing_pair C) := by
  intro ds M q ql e h
  obtain ⟨d, rfl, ls, hl, hd, hq⟩ := ar1_of h
  have h6 := hl.2.1
  unfold clsD clsF at hq
  refine sqStep (forN_ev (ev_b1 (ev_var (i := 0) rfl) (o1_lenK hd)) (by omega) ?_)
  refine forR_ix (fun a ρ M' => M' = M ∧ (prsOf a).find? (fun p => clh ls p.1 p.2) = none ∧ ∃ x1 x2, ρ = [some (.val d), x1, x2]) _ 0 ?_ ?_ _ _ ⟨rfl, rfl, none, none, rfl⟩
  · rintro a z hz F hF ρ M' ⟨rfl, h0, x1, x2, rfl⟩
    obtain ⟨ha, rfl⟩ := enum_range hz
    rw [Nat.zero_add] at h0 hF
    have ha : a < ls.length := by omega
    refine forN_ev (n := a) (ev_var (i := 1) rfl) (by omega) ?_
    refine forR_ix (fun b ρ M2 => M2 = M' ∧ ((List.range b).map fun b => (b, a)).find? (fun p => clh ls p.1 p.2) = none ∧ ∃ x2, ρ = [some (.val d), some (.val (.int (a : Int))), x2]) _ 0 ?_ ?_ _ _ ⟨rfl, rfl, x2, rfl⟩
    · rintro b z hz F2 hF2 ρ M2 ⟨rfl, h1, x2, rfl⟩
      obtain ⟨hb, rfl⟩ := enum_range hz
      rw [Nat.zero_add] at h1 hF2
      have hb : b < a := by omega
      have eb : Ev (dOp fEq (dCall (sp_bond C) [] (dCons (dOp fIx (dVar 0) (dVar 2)) (dCons (dOp fIx (dVar 0) (dVar 1)) dNil))) (dC (.str "clash"))) (fun cls fs x M' => ∃ M2, MLe M2 M' ∧ e cls fs M2) [some (.val d), some (.val (.int (a : Int))), some (.val (.int (b : Int)))] M2 (.bl (clh ls b a)) := by
        have := ev_op (ev_bond (C := C) hl (show b < ls.length by omega) ha (ev_at hd (by omega) (ev_var (i := 0) (w := fun cls fs x M' => ∃ M2, MLe M2 M' ∧ e cls fs M2) (M := M2) (ρ := [some (.val d), some (.val (.int (a : Int))), some (.val (.int (b : Int)))]) rfl) (ev_var (i := 2) rfl)) (ev_at hd ha (ev_var (i := 0) rfl) (ev_var (i := 1) rfl))) (ev_c (d := .str "clash")) (o2_eq (jn_bnd ls b a).2.2.2 (by decide +kernel))
        rw [(jn_bnd ls b a).2.2.1] at this
        exact this
      refine if_ev (evt eb) (fun c => ?_) (fun c => ?_)
      · have ef := prs_find (f := fun p => clh ls p.1 p.2) ha hb h0 h1 c
        rw [ef] at hq
        exact newNw_run (eva_cons (ev_var rfl) (eva_cons (ev_var rfl) eva_nil)) (by show 2 ≤ 1000000; decide) ⟨M2, MLe.refl _, hq⟩
      · refine hF2 _ _ ⟨rfl, ?_, some (.val (.int (b : Int))), rfl⟩
        rw [List.range_succ, List.map_append, List.find?_append, h1]
        simp [c]
    · rintro ρ M2 ⟨rfl, h1, x2, rfl⟩
      rw [rngD_len, Nat.zero_add] at h1
      refine hF _ _ ⟨rfl, ?_, _, _, rfl⟩
      rw [prsOf_succ, List.find?_append, h0]
      rw [h1]; rfl
  · rintro ρ M' ⟨rfl, h0, x1, x2, rfl⟩
    rw [rngD_len, Nat.zero_add] at h0
    rw [h0] at hq
    exact ⟨M', MLe.refl _, hq⟩
end
def spN_odd (C : Cl) : PSpN := fun ds M q ql _ => ar1 ds fun s => ∃ (b1 b2 b3 : Addr) (ls : List (Int × Int)) (d : D), s = netD C d b1 b2 b3 ∧ LkOk ls ∧ isLks d ls ∧ NS M b1 b2 b3 (netF ls) ∧ outN q ql (oddD ls) M
def rdN_odd (C : Cl) : PTS := (dSeq (dFor (iR1 (dB1 fLen (dFld C.Net "n_looks" (dVar 0)))) (gNm 1) (dFor (iR1 (dVar 1)) (gNm 2) (dSeq (dSet 3 (dCall (sp_bond C) [] (dCons (dOp fIx (dFld C.Net "n_looks" (dVar 0)) (dVar 2)) (dCons (dOp fIx (dFld C.Net "n_looks" (dVar 0)) (dVar 1)) dNil))))
    (dSeq (dSet 4 (dOp fEq (dGetDk (dFld C.Net "n_signs" (dVar 0)) (dVar 2)) (dGetDk (dFld C.Net "n_signs" (dVar 0)) (dVar 1))))
    (dIfS (dAnd (dTst (dOp (fInF false) (dVar 3) (dTup (dCons (dC (.str "alike")) (dCons (dC (.str "unlike")) dNil))))) (dTst (dOp fNe (dOp fEq (dVar 3) (dC (.str "alike"))) (dVar 4)))) (dSeq (dAsg (dTup (dCons (dMeth C.Net "way" (sp_Net_way C) (dVar 0) (dCons (dVar 2) dNil)) (dCons (dMeth C.Net "way" (sp_Net_way C) (dVar 0) (dCons (dVar 1) dNil)) dNil))) (gTp 2 (gsCons (gNm 5) (gsCons (gNm 6) gsNil))))
    (dSeq (dSet 7 (dOp fIx (dL (dComp [8] (iA (dVar 5)) (gNm 8) (dTst (dOp (fInI false) (dVar 8) (dVar 6))) (dVar 8))) (dC (.int 0))))
    (dRetNw (nNew (dG2 fCatL (dSl (dVar 5) dNo (dPt (dOp fAdd (dMtL fIdxI (dVar 5) (dVar 7)) (dC (.int 1))))) (dL (dG1 fRev (dSl (dVar 6) dNo (dPt (dMtL fIdxI (dVar 6) (dVar 7))))))))))) dNext)))))
    (dRetNw (nVal (dC .non))))
def orBodyN (C : Cl) : PTS := (dSeq (dAsg (dTup (dCons (dMeth C.Net "way" (sp_Net_way C) (dVar 0) (dCons (dVar 2) dNil)) (dCons (dMeth C.Net "way" (sp_Net_way C) (dVar 0) (dCons (dVar 1) dNil)) dNil))) (gTp 2 (gsCons (gNm 5) (gsCons (gNm 6) gsNil))))
    (dSeq (dSet 7 (dOp fIx (dL (dComp [8] (iA (dVar 5)) (gNm 8) (dTst (dOp (fInI false) (dVar 8) (dVar 6))) (dVar 8))) (dC (.int 0))))
    (dRetNw (nNew (dG2 fCatL (dSl (dVar 5) dNo (dPt (dOp fAdd (dMtL fIdxI (dVar 5) (dVar 7)) (dC (.int 1))))) (dL (dG1 fRev (dSl (dVar 6) dNo (dPt (dMtL fIdxI (dVar 6) (dVar 7)))))))))))
section
variable {C : Cl} {w : PWi} {P : PEnds} {M : Mm} {ls : List (Int × Int)} {d : D} {b1 b2 b3 : Addr} {a b : Nat} {x3 x4 x5 x6 x7 : Option Sv}
theorem orBodyN_ok (hl : LkOk ls) (N : NS M b1 b2 b3 (netF ls)) (hb : b < ls.length) (ha : a < ls.length) (hh : (netF ls).Hd b = (netF ls).Hd a) (hN : P.rl ((ringI (wayI (netF ls) b) (wayI (netF ls) a)).map .int) M) : orBodyN C w P (ρr C d b1 b2 b3 a b x3 x4 x5 x6 x7) M := by
  have c1 := way_head (net_ok ls).1 ((net_ok ls).2.2 b hb)
  have c2 := way_head (net_ok ls).1 ((net_ok ls).2.2 a ha)
  rw [← hh] at c2
  have len : ∀ i, i < ls.length → (wayI (netF ls) i).length ≤ 7 := fun i hi => by
    unfold wayI wayF
    rw [List.length_map]
    have h1 := wayN_len (t := netF ls) ((netF ls).L.idxOf i) i
    have h2 := List.idxOf_lt_length_iff.mpr ((net_ok ls).2.2 i hi)
    have h3 := nodup_lenG (net_ok ls).1.nd (ns := List.range ls.length) fun i hi => List.mem_range.mpr ((net_ok ls).1.lt i hi)
    rw [List.length_range] at h3
    have := hl.2.1
    omega
  have lb := len b hb
  have la := len a ha
  refine sqAsg (ev_tup (eva_cons (ev_way hl N hb (ev_var rfl) (ev_var rfl)) (eva_cons (ev_way hl N ha (ev_var rfl) (ev_var rfl)) eva_nil)) (by show 2 ≤ 1000000; decide)) ?_
  refine ⟨rfl, ?_⟩
  generalize wayI (netF ls) b = h at c1 lb hN
  generalize wayI (netF ls) a = th at c2 la hN
  obtain ⟨r, er, m1, m2⟩ := topI_mem c1 c2
  have e7 : Ev (dOp fIx (dL (dComp [8] (iA (dVar 5)) (gNm 8) (dTst (dOp (fInI false) (dVar 8) (dVar 6))) (dVar 8))) (dC (.int 0))) w (ρr C d b1 b2 b3 a b x3 x4 (some (.val (.lst (h.map .int)))) (some (.val (.lst (th.map .int)))) x7) M (.int (topI h th)) := by
    have hc : EvA (dComp [8] (iA (dVar 5)) (gNm 8) (dTst (dOp (fInI false) (dVar 8) (dVar 6))) (dVar 8)) w (ρr C d b1 b2 b3 a b x3 x4 (some (.val (.lst (h.map .int)))) (some (.val (.lst (th.map .int)))) x7) M ((h.filter fun x => decide (x ∈ th)).map .int) := by
      intro q hq
      refine ⟨rfl, ?_⟩
      refine compR_fm (fun d => match d with | .int x => if decide (x ∈ th) = true then some (.int x) else none | _ => none) (h.map .int) [] (fun y hy kt kf hk => ?_) (by rw [List.length_map]; show 0 + h.length ≤ 1000000; omega) ?_
      · obtain ⟨x, hx, rfl⟩ := List.mem_map.mp hy
        have ht : EvT (dTst (dOp (fInI false) (dVar 8) (dVar 6))) w0 ((ρr C d b1 b2 b3 a b x3 x4 (some (.val (.lst (h.map .int)))) (some (.val (.lst (th.map .int)))) x7).set 8 (some (.val (.int x)))) M (decide (x ∈ th)) :=
          evt (ev_op (ev_var rfl) (ev_var rfl) (o2_inI (neg := false) (show itemsD (.lst (th.map .int)) = some th from intsOf_mk th)))
        refine ht _ ?_
        by_cases z : decide (x ∈ th) = true
        · rw [if_pos z]
          have hk : kt (.int x) M := by
            have : (match (if decide (x ∈ th) = true then some (D.int x) else none) with | some y => kt y M | none => kf M) := hk
            rw [if_pos z] at this
            exact this
          exact ev_var (ρ := (ρr C d b1 b2 b3 a b x3 x4 (some (.val (.lst (h.map .int)))) (some (.val (.lst (th.map .int)))) x7).set 8 (some (.val (.int x)))) (i := 8) rfl _ hk
        · rw [if_neg z]
          have : (match (if decide (x ∈ th) = true then some (D.int x) else none) with | some y => kt y M | none => kf M) := hk
          rw [if_neg z] at this
          exact this
      · have e : (h.map D.int).filterMap (fun d => match d with | .int x => if decide (x ∈ th) = true then some (D.int x) else none | _ => none) = (h.filter fun x => decide (x ∈ th)).map .int := by
          clear lb hN m1 m2 c1 er hq
          induction h with
          | nil => rfl
          | cons x h ih =>
            rw [List.map_cons, List.filterMap_cons, List.filter_cons, ih]
            by_cases z : x ∈ th
            · simp [z]
            · simp [z]
        rw [e]
        exact hq
    rw [er] at hc
    exact ev_op (ev_lc hc) ev_c (o2_ixL (atI_nat (j := 0) rfl))
  refine sqSet e7 ?_
  have v5 : Ev (dVar 5) w (ρr C d b1 b2 b3 a b x3 x4 (some (.val (.lst (h.map .int)))) (some (.val (.lst (th.map .int)))) (some (.val (.int (topI h th))))) M (.lst (h.map .int)) := ev_var rfl
  have v6 : Ev (dVar 6) w (ρr C d b1 b2 b3 a b x3 x4 (some (.val (.lst (h.map .int)))) (some (.val (.lst (th.map .int)))) (some (.val (.int (topI h th))))) M (.lst (th.map .int)) := ev_var rfl
  have i5 := ev_mtl v5 (ev_var (i := 7) rfl) (o2_idxK m1)
  have i6 := ev_mtl v6 (ev_var (i := 7) rfl) (o2_idxK m2)
  have u5 := ev_upK (k := h.idxOf (topI h th) + 1) v5 (ev_op i5 (ev_c (d := .int 1)) o2_add)
  have u6 := ev_revK (ev_upK (k := th.idxOf (topI h th)) v6 i6)
  have e : (h.map D.int).take (h.idxOf (topI h th) + 1) ++ ((th.map D.int).take (th.idxOf (topI h th))).reverse = (ringI h th).map .int := by
    unfold ringI
    rw [List.map_append, List.map_take, List.map_reverse, List.map_take]
  refine u5 _ (u6 _ ⟨by rw [List.length_reverse, List.length_take, List.length_take, List.length_map, List.length_map]; omega, ?_⟩)
  rw [e]
  exact hN
theorem shN_odd (C : Cl) : ShowsN (spN_odd C) 9 (rdN_odd C) := by
  intro ds M q ql e h
  obtain ⟨s, rfl, b1, b2, b3, ls, d, rfl, hl, hd, N, hq⟩ := ar1_of h
  have h6 := hl.2.1
  unfold oddD oddF at hq
  refine sqStep (forN_ev (ev_b1 (ev_looks (C := C) (b1 := b1) (b2 := b2) (b3 := b3) (ev_var (i := 0) rfl)) (o1_lenK hd)) (by omega) ?_)
  refine forR_ix (fun a ρ M' => M' = M ∧ (prsOf a).find? (oddP ls (netF ls)) = none ∧ ∃ x1 x2 x3 x4 x5 x6 x7, ρ = [some (.val (netD C d b1 b2 b3)), x1, x2, x3, x4, x5, x6, x7, none]) _ 0 ?_ ?_ _ _ ⟨rfl, rfl, none, none, none, none, none, none, none, rfl⟩
  · rintro a z hz F hF ρ M' ⟨rfl, h0, x1, x2, x3, x4, x5, x6, x7, rfl⟩
    obtain ⟨ha, rfl⟩ := enum_range hz
    rw [Nat.zero_add] at h0 hF
    refine forN_ev (n := a) (ev_var (i := 1) rfl) (by omega) ?_
    refine forR_ix (fun b ρ M2 => M2 = M' ∧ ((List.range b).map fun b => (b, a)).find? (oddP ls (netF ls)) = none ∧ ∃ x2 x3 x4 x5 x6 x7, ρ = [some (.val (netD C d b1 b2 b3)), some (.val (.int (a : Int))), x2, x3, x4, x5, x6, x7, none]) _ 0 ?_ ?_ _ _ ⟨rfl, rfl, x2, x3, x4, x5, x6, x7, rfl⟩
    · rintro b z hz F2 hF2 ρ M2 ⟨rfl, h1, x2, x3, x4, x5, x6, x7, rfl⟩
      obtain ⟨hb, rfl⟩ := enum_range hz
      rw [Nat.zero_add] at h1 hF2
      have hbl : b < ls.length := by omega
      obtain ⟨j1, j2, j3, j4⟩ := jn_bnd ls b a
      have bL := (net_ok ls).2.2 b hbl
      have aL := (net_ok ls).2.2 a ha
      have eb : Ev (dCall (sp_bond C) [] (dCons (dOp fIx (dFld C.Net "n_looks" (dVar 0)) (dVar 2)) (dCons (dOp fIx (dFld C.Net "n_looks" (dVar 0)) (dVar 1)) dNil))) (fun cls fs x M' => ∃ M2, MLe M2 M' ∧ e cls fs M2) (ρr C d b1 b2 b3 a b x3 x4 x5 x6 x7) M2 (.str (bnd ls b a)) :=
        ev_bond hl hbl ha (ev_at hd hbl (ev_looks (C := C) (b1 := b1) (b2 := b2) (b3 := b3) (ev_var (i := 0) rfl)) (ev_var (i := 2) rfl)) (ev_at hd ha (ev_looks (C := C) (b1 := b1) (b2 := b2) (b3 := b3) (ev_var (i := 0) rfl)) (ev_var (i := 1) rfl))
      refine sqSet eb ?_
      have es : Ev (dOp fEq (dGetDk (dFld C.Net "n_signs" (dVar 0)) (dVar 2)) (dGetDk (dFld C.Net "n_signs" (dVar 0)) (dVar 1))) (fun cls fs x M' => ∃ M2, MLe M2 M' ∧ e cls fs M2) (ρr C d b1 b2 b3 a b (some (.val (.str (bnd ls b a)))) x4 x5 x6 x7) M2 (.bl (decide ((netF ls).S b = (netF ls).S a))) :=
        ev_op (N.sign bL (ev_netF (f := "n_signs") (ev_var (i := 0) rfl) rfl) (ev_var (i := 2) rfl)) (N.sign aL (ev_netF (f := "n_signs") (ev_var (i := 0) rfl) rfl) (ev_var (i := 1) rfl)) o2_eqI
      refine sqSet es ?_
      have t1 : EvT (dTst (dOp (fInF false) (dVar 3) (dTup (dCons (dC (.str "alike")) (dCons (dC (.str "unlike")) dNil))))) (fun cls fs x M' => ∃ M2, MLe M2 M' ∧ e cls fs M2) (ρr C d b1 b2 b3 a b (some (.val (.str (bnd ls b a)))) (some (.val (.bl (decide ((netF ls).S b = (netF ls).S a))))) x5 x6 x7) M2 (jn ls b a) :=
        evt (ev_op (ev_var rfl) (ev_tup (eva_cons ev_c (eva_cons ev_c eva_nil)) (by show 2 ≤ 1000000; decide)) (fun κ hκ => by
          show κ (.bl (if false = true then !inV (.str (bnd ls b a)) [V.str "alike", V.str "unlike"] else inV (.str (bnd ls b a)) [V.str "alike", V.str "unlike"]))
          rw [if_neg (by decide), j1]
          exact hκ))
      have t2 : jn ls b a = true → EvT (dTst (dOp fNe (dOp fEq (dVar 3) (dC (.str "alike"))) (dVar 4))) (fun cls fs x M' => ∃ M2, MLe M2 M' ∧ e cls fs M2) (ρr C d b1 b2 b3 a b (some (.val (.str (bnd ls b a)))) (some (.val (.bl (decide ((netF ls).S b = (netF ls).S a))))) x5 x6 x7) M2 (alk ls b a != decide ((netF ls).S b = (netF ls).S a)) := fun hj => by
        have e1 := ev_op (ev_var (w := fun cls fs x M' => ∃ M2, MLe M2 M' ∧ e cls fs M2) (M := M2) (ρ := ρr C d b1 b2 b3 a b (some (.val (.str (bnd ls b a)))) (some (.val (.bl (decide ((netF ls).S b = (netF ls).S a))))) x5 x6 x7) (i := 3) rfl) (ev_c (d := .str "alike")) (o2_eq j4 (by decide +kernel))
        rw [j2] at e1
        have e2 := ev_op e1 (ev_var (i := 4) rfl) (o2_ne (x := .bl (alk ls b a && !unl ls b a)) (y := .bl (decide ((netF ls).S b = (netF ls).S a))) rfl rfl)
        have e3 : (!eqD (.bl (alk ls b a && !unl ls b a)) (.bl (decide ((netF ls).S b = (netF ls).S a)))) = (alk ls b a != decide ((netF ls).S b = (netF ls).S a)) := by
          have : (alk ls b a && !unl ls b a) = alk ls b a := by
            unfold jn at hj
            revert hj
            cases alk ls b a <;> cases unl ls b a <;> decide
          rw [this]
          generalize decide ((netF ls).S b = (netF ls).S a) = y
          cases alk ls b a <;> cases y <;> decide
        rw [e3] at e2
        exact evt e2
      refine if_ev (evt_and t1 t2 (x := oddP ls (netF ls) (b, a)) rfl) (fun c => ?_) (fun c => ?_)
      · have ef := prs_find (f := oddP ls (netF ls)) ha hb h0 h1 c
        rw [ef] at hq
        have hj : jn ls b a = true := by unfold oddP at c; rw [Bool.and_eq_true] at c; exact c.1
        exact orBodyN_ok (C := C) hl N hbl ha ((net_ok ls).2.1 b bL a ha hj).2 ⟨M2, MLe.refl _, hq⟩
      · refine hF2 _ _ ⟨rfl, ?_, some (.val (.int (b : Int))), some (.val (.str (bnd ls b a))), some (.val (.bl (decide ((netF ls).S b = (netF ls).S a)))), x5, x6, x7, rfl⟩
        rw [List.range_succ, List.map_append, List.find?_append, h1]
        simp [c]
    · rintro ρ M2 ⟨rfl, h1, x2, x3, x4, x5, x6, x7, rfl⟩
      rw [rngD_len, Nat.zero_add] at h1
      refine hF _ _ ⟨rfl, ?_, _, _, _, _, _, _, _, rfl⟩
      rw [prsOf_succ, List.find?_append, h0]
      rw [h1]; rfl
  · rintro ρ M' ⟨rfl, h0, x1, x2, x3, x4, x5, x6, x7, rfl⟩
    rw [rngD_len, Nat.zero_add] at h0
    rw [h0] at hq
    exact ⟨M', MLe.refl _, hq⟩
end
def spN_ring_of (C : Cl) : PSpN := fun ds M q ql _ => ar1 ds fun d => ∃ ls, LkOk ls ∧ isLks d ls ∧ outN q ql (ringD ls) M
def rdN_ring_of (C : Cl) : PTS := (dSeq (dSetNw 1 (nCall (spN_clashing_pair C) (dCons (dVar 0) dNil)))
    (dRetIfN 1 (dTst (dOp fIsNot (dOwn 1) (dC .non))) (nMeth0 C.Net "odd_ring" (spN_odd C) (dMake C.Net (sp_Net___init__ C) (dCons (dVar 0) dNil)))))
theorem shN_ring_of (C : Cl) : ShowsN (spN_ring_of C) 2 (rdN_ring_of C) := by
  intro ds M q ql e h
  obtain ⟨d, rfl, ls, hl, hd, hq⟩ := ar1_of h
  unfold ringD at hq
  refine setNw_run (nCall_run (eva_cons (ev_var (i := 0) (d := d) rfl) eva_nil) fun e' => ⟨ls, hl, hd, ?_⟩)
  cases cc : clsF ls with
  | some p =>
    have e1 : clsD ls = .lst [.int (p.1 : Nat), .int (p.2 : Nat)] := by unfold clsD; rw [cc]
    rw [e1] at hq ⊢
    exact ⟨rfl, M, MLe.refl _, hq⟩
  | none =>
    have e1 : clsD ls = .non := by unfold clsD; rw [cc]
    rw [e1] at hq ⊢
    have hq : outN q ql (oddD ls) M := hq
    have key : nMeth0 C.Net "odd_ring" (spN_odd C) (dMake C.Net (sp_Net___init__ C) (dCons (dVar 0) dNil)) (fun cls fs _ M' => ∃ M2, MLe M2 M' ∧ e cls fs M2) [some (.val d), some (.val .non)] M (fun d M' => ∃ M2, MLe M2 M' ∧ q d M2) (fun l M' => ∃ M2, MLe M2 M' ∧ ql l M2) := by
      refine nMeth0_run (make_net hl hd (ev_var (i := 0) rfl) fun b1 b2 b3 M' N hle => ?_)
      refine ⟨⟨rfl, by show ("odd_ring" : Str) ∉ (["n_looks", "n_signs", "n_heads", "n_ahead"] : List Str); decide⟩, ?_⟩
      refine ⟨b1, b2, b3, ls, d, rfl, hl, hd, N, ?_⟩
      cases co : oddF ls with
      | some p =>
        have e2 : oddD ls = .lst ((ringI (wayI (netF ls) p.1) (wayI (netF ls) p.2)).map .int) := by unfold oddD; rw [co]
        rw [e2] at hq ⊢
        exact ⟨M, hle, hq⟩
      | none =>
        have e2 : oddD ls = .non := by unfold oddD; rw [co]
        rw [e2] at hq ⊢
        exact ⟨M, hle, hq⟩
    exact ⟨rfl, key⟩
def spN_ring (C : Cl) : PSpN := fun ds M q ql _ => ar1 ds fun d => ∃ ls, LkOk ls ∧ isLks d ls ∧ outN q ql (ringD ls) M
def rdN_ring (C : Cl) : PTS := (dSeq (dDrop (dCall (sp_need_looks C) [] (dCons (dVar 0) dNil)))
    (dRetNw (nCall (spN_ring_of C) (dCons (dVar 0) dNil))))
theorem ringD_cases (ls : List (Int × Int)) : ringD ls = .non ∨ ∃ r : List Int, ringD ls = .lst (r.map .int) := by
  cases c : isN (ringD ls) with
  | true =>
    left
    cases e : ringD ls with
    | non => rfl
    | _ => rw [e] at c; cases c
  | false => obtain ⟨r, e, _⟩ := ringD_rg c; exact .inr ⟨r, e⟩
theorem outN_mono {q q' : PQ} {ql ql' : List D → Mm → Prop} {d : D} {M : Mm} (h : outN q ql d M) (h1 : ∀ d, q d M → q' d M) (h2 : ∀ l, ql l M → ql' l M) : outN q' ql' d M := by
  cases d with
  | lst l => exact h2 l h
  | _ => exact h1 _ h
theorem shN_ring (C : Cl) : ShowsN (spN_ring C) 1 (rdN_ring C) := by
  intro ds M q ql e h
  obtain ⟨d, rfl, ls, hl, hd, hq⟩ := ar1_of h
  refine drop_need hl hd (ev_var (i := 0) rfl) ?_
  exact retNw_run (nCall_run (eva_cons (ev_var (i := 0) (d := d) rfl) eva_nil) fun e' => ⟨ls, hl, hd, outN_mono hq (fun d z => ⟨M, MLe.refl _, z⟩) fun l z => ⟨M, MLe.refl _, z⟩⟩)
def rdN_fitting (C : Cl) : PTS := (dSeq (dDrop (dCall (sp_need_looks C) [] (dCons (dVar 0) dNil)))
    (dSeq (dIfS (dTst (dOp fIsNot (dOfN (nCall (spN_ring_of C) (dCons (dVar 0) dNil))) (dC .non))) (dRet (dC (.int 0))) dNext)
    (dSeq (dSet 1 (dB1 fLen (dMeth C.Net "classes" (sp_Net_classes C) (dMake C.Net (sp_Net___init__ C) (dCons (dVar 0) dNil)) dNil)))
    (dRet (dIf (dTst (dOp fEq (dVar 1) (dC (.int 0)))) (dC (.int 1)) (dOp fShl (dC (.int 1)) (dOp fSub (dVar 1) (dC (.int 1)))))))))
theorem ev_ofN_ring {C : Cl} {w : PWi} {ρ : Rho} {M : Mm} {pa : PTE} {d : D} {ls : List (Int × Int)} (hl : LkOk ls) (hd : isLks d ls) (ha : Ev pa w ρ M d) : Ev (dOfN (nCall (spN_ring_of C) (dCons pa dNil))) w ρ M (ringD ls) := fun q hq => by
  show nCall _ _ w ρ M q fun l M' => q (.lst l) M'
  refine nCall_run (eva_cons ha eva_nil) fun e' => ⟨ls, hl, hd, ?_⟩
  rcases ringD_cases ls with e | ⟨r, e⟩
  · rw [e] at hq ⊢; exact hq
  · rw [e] at hq ⊢; exact hq
theorem shN_fitting (C : Cl) : Shows (sp_fitting C) 2 (rdN_fitting C) := by
  intro ds M q e h
  obtain ⟨d, rfl, ls, hl, hd, hq⟩ := ar1_of h
  have h6 := hl.2.1
  unfold fitN at hq
  refine sqStep (drop_run ?_)
  refine ⟨hl.okK hd, ?_⟩
  rw [hl.wr hd]
  have et : EvT (dTst (dOp fIsNot (dOfN (nCall (spN_ring_of C) (dCons (dVar 0) dNil))) (dC .non))) (fun cls fs x M' => ∃ M2, MLe M2 M' ∧ e cls fs M2) [some (.val d), none] M (!isN (ringD ls)) :=
    evt (ev_op (ev_ofN_ring hl hd (ev_var rfl)) ev_c (o2_isnN (ringD_raw ls)))
  by_cases c : isN (ringD ls) = true
  · rw [c] at et
    rw [if_pos c] at hq
    refine sqIfFN et ?_
    have hc : (clsL ls (netF ls).Hd).length ≤ 6 := by
      have := List.length_filter_le (fun i => decide ((netF ls).Hd i = i) && (decide (0 < sL ls i) && decide (sL ls i < hL ls i))) (List.range ls.length)
      rw [List.length_range] at this
      unfold clsL
      omega
    refine sqStep (set_run (b1_runK (meth0_run (make_net (C := C) hl hd (ev_var (i := 0) rfl) fun b1 b2 b3 M' N hle => ?_))))
    refine ⟨⟨rfl, by show ("classes" : Str) ∉ (["n_looks", "n_signs", "n_heads", "n_ahead"] : List Str); decide⟩, ?_⟩
    refine ⟨b1, b2, b3, ls, d, rfl, hl, hd, N, ?_⟩
    generalize (clsL ls (netF ls).Hd) = cl at hc hq ⊢
    refine o1_lenL _ ?_
    rw [List.length_map]
    have key : dRet (dIf (dTst (dOp fEq (dVar 1) (dC (.int 0)))) (dC (.int 1)) (dOp fShl (dC (.int 1)) (dOp fSub (dVar 1) (dC (.int 1))))) (fun cls fs x M' => ∃ M2, MLe M2 M' ∧ e cls fs M2) { nx := fun x M' => ∃ M2, MLe M2 M' ∧ q D.non M2, rt := fun d M' => ∃ M2, MLe M2 M' ∧ q d M2 } [some (.val d), some (.val (.int ((cl.length : Nat) : Int)))] M' := by
      refine ret_ev (d := .int (if cl.length = 0 then 1 else 2 ^ (cl.length - 1))) (ev_ife (evt (ev_op (ev_var (i := 1) rfl) ev_c o2_eqI)) (fun z => ?_) (fun z => ?_)) ⟨M, hle, hq⟩
      · have z := of_decide_eq_true z
        rw [if_pos (by omega)]
        exact ev_c
      · have z := of_decide_eq_false z
        rw [if_neg (by omega)]
        have hp : CPow 1 ((cl.length : Int) - 1) := by
          have : cl.length = 1 ∨ cl.length = 2 ∨ cl.length = 3 ∨ cl.length = 4 ∨ cl.length = 5 ∨ cl.length = 6 := by omega
          rcases this with z | z | z | z | z | z <;> rw [z] <;> first | decide | exact ⟨by decide, by decide, by decide⟩
        have e1 := ev_op (ev_c (w := fun cls fs x M' => ∃ M2, MLe M2 M' ∧ e cls fs M2) (ρ := [some (.val d), some (.val (.int ((cl.length : Nat) : Int)))]) (M := M') (d := .int 1)) (ev_op (ev_var (i := 1) rfl) (ev_c (d := .int 1)) o2_sub) (show Op2 fShl (.int 1) (.int ((cl.length : Int) - 1)) (.int (1 * 2 ^ ((cl.length : Int) - 1).toNat)) from fun κ hκ => ⟨hp, hκ⟩)
        rw [Int.one_mul, show ((cl.length : Int) - 1).toNat = cl.length - 1 by omega] at e1
        exact e1
    exact key
  · rw [show isN (ringD ls) = false by simpa using c] at et
    rw [if_neg c] at hq
    exact sqIfTR et ev_c ⟨M, MLe.refl _, hq⟩
end Px
set_option Elab.async false
set_option linter.all false
set_option maxRecDepth 100000
namespace Px
open PySem PySem.Spec PyProof.Rows L2
theorem srt_uniq : ∀ {l l' : List Int}, l.Pairwise (· < ·) → l'.Pairwise (· < ·) → (∀ k, k ∈ l ↔ k ∈ l') → l = l'
  | [], [], _, _, _ => rfl
  | [], y :: l', _, _, h => by have := (h y).mpr List.mem_cons_self; cases this
  | x :: l, [], _, _, h => by have := (h x).mp List.mem_cons_self; cases this
  | x :: l, y :: l', h1, h2, h => by
    have hx := (h x).mp List.mem_cons_self
    have hy := (h y).mpr List.mem_cons_self
    obtain ⟨a1, b1⟩ := List.pairwise_cons.mp h1
    obtain ⟨a2, b2⟩ := List.pairwise_cons.mp h2
    have e : x = y := by
      rcases List.mem_cons.mp hx with e | e
      · exact e
      · rcases List.mem_cons.mp hy with e2 | e2
        · exact e2.symm
        · have := a2 x e; have := a1 y e2; omega
    subst e
    rw [srt_uniq b1 b2 fun k => ⟨fun hk => by
      rcases List.mem_cons.mp ((h k).mp (List.mem_cons_of_mem _ hk)) with e | z
      · have := a1 k hk; omega
      · exact z, fun hk => by
      rcases List.mem_cons.mp ((h k).mpr (List.mem_cons_of_mem _ hk)) with e | z
      · have := a2 k hk; omega
      · exact z⟩]
theorem le_lt : ∀ {l : List Int}, l.Pairwise (· ≤ ·) → l.Nodup → l.Pairwise (· < ·)
  | [], _, _ => .nil
  | x :: l, h, n => by
    obtain ⟨a, b⟩ := List.pairwise_cons.mp h
    obtain ⟨c, d⟩ := List.nodup_cons.mp n
    exact List.pairwise_cons.mpr ⟨fun y hy => by
      have := a y hy
      have : x ≠ y := fun z => c (z ▸ hy)
      omega, le_lt b d⟩
theorem evt_srt {w : PWi} {ρ : Rho} {M : Mm} {pv : PTE} {ns : List Int} (hv : Ev pv w ρ M (.lst (ns.map .int))) (nd : ns.Nodup) (hl : ns.length ≤ 60) : EvT (dTst (dOp fNe (dL (dSortL pv)) (dL (dG1 fSortI pv)))) w ρ M false := by
  intro q hq
  unfold dTst dOp dL dSortL dG1
  refine hv _ ⟨ns, .inl rfl, by omega, fun ms h1 h2 h3 => hv _ ⟨ns, rfl, by omega, fun ms2 p1 p2 => ?_⟩⟩
  have e : ms = ms2 := srt_uniq h1 (le_lt p2 (p1.nodup_iff.mpr nd)) fun k => (h2 k).trans p1.mem_iff.symm
  subst e
  have o := o2_ne (x := .lst (ms.map .int)) (y := .lst (ms.map .int)) (okD_ints ms) (okD_ints ms)
  rw [eqD_rf] at o
  exact o _ hq
def eqBd : D → Bool
  | .tup [.bl a, .bl b] => a == b
  | _ => false
def sndBd : D → Bool
  | .tup [.bl _, .bl b] => b
  | _ => false
theorem ring_tailQ {ls : List (Int × Int)} : ∀ L : List (Int × Int), ((L.map (bdD ls)).filter eqBd).isEmpty = L.all fun p => jn ls p.1.toNat p.2.toNat
  | [] => rfl
  | p :: L => by
    rw [List.map_cons, List.filter_cons, List.all_cons, ← ring_tailQ L]
    show List.isEmpty (if (alk ls p.1.toNat p.2.toNat == unl ls p.1.toNat p.2.toNat) = true then _ else _) = _
    unfold jn
    cases alk ls p.1.toNat p.2.toNat <;> cases unl ls p.1.toNat p.2.toNat <;> rfl
theorem ring_oddQ {ls : List (Int × Int)} : ∀ L : List (Int × Int), (∀ p ∈ L, jn ls p.1.toNat p.2.toNat = true) → ((L.map (bdD ls)).filter sndBd).length = L.countP (unk ls)
  | [], _ => rfl
  | p :: L, h => by
    have h0 := h p List.mem_cons_self
    have ih := ring_oddQ L fun r hr => h r (List.mem_cons_of_mem _ hr)
    rw [List.map_cons, List.filter_cons, List.countP_cons, ← ih]
    show List.length (if unl ls p.1.toNat p.2.toNat = true then _ else _) = _ + (if (!alk ls p.1.toNat p.2.toNat) = true then 1 else 0)
    unfold jn at h0
    revert h0
    cases alk ls p.1.toNat p.2.toNat <;> cases unl ls p.1.toNat p.2.toNat <;> intro h0 <;> first | rfl | cases h0
def sp__law_is_ring (C : Cl) : PSp := fun ds M q _ => ar2 ds fun d t => ∃ ls r, LkOk ls ∧ isLks d ls ∧ t = .lst (r.map .int) ∧ Rg ls r ∧ q (.bl true) M
def rd__law_is_ring (C : Cl) : PTS := (dSeq (dIfS (dOr (dTst (dOp fLt (dB1 fLen (dVar 1)) (dC (.int 2)))) (dTst (dOp fNe (dL (dSortL (dVar 1))) (dL (dG1 fSortI (dVar 1)))))) (dRet (dC (.bl false))) dNext)
    (dSeq (dIfS (dTst (dOp fEq (dB1 fLen (dVar 1)) (dC (.int 2)))) (dRet (dOp fEq (dCall (sp__law_bond C) [] (dCons (dOp fIx (dVar 0) (dOp fIx (dVar 1) (dC (.int 0)))) (dCons (dOp fIx (dVar 0) (dOp fIx (dVar 1) (dC (.int 1)))) dNil))) (dTup (dCons (dC (.bl false)) (dCons (dC (.bl false)) dNil))))) dNext)
    (dSeq (dSet 2 (dL (dComp [3] (iR1 (dB1 fLen (dVar 1))) (gNm 3) dYes (dCall (sp__law_bond C) [] (dCons (dOp fIx (dVar 0) (dOp fIx (dVar 1) (dOp fSub (dVar 3) (dC (.int 1))))) (dCons (dOp fIx (dVar 0) (dOp fIx (dVar 1) (dVar 3))) dNil))))))
    (dSeq (dIfS (dTst (dOp fNe (dL (dComp [4] (iA (dVar 2)) (gNm 4) (dTst (dOp fEq (dOp fIx (dVar 4) (dC (.int 0))) (dOp fIx (dVar 4) (dC (.int 1))))) (dVar 4))) (dL (dLst dNil)))) (dRet (dC (.bl false))) dNext)
    (dRet (dOp fEq (dOp fMod (dB1 fLen (dL (dComp [4] (iA (dVar 2)) (gNm 4) (dTst (dOp fIx (dVar 4) (dC (.int 1)))) (dVar 4)))) (dC (.int 2))) (dC (.int 1))))))))
theorem neB_nil (l : List D) : (!eqD (.lst l) (.lst [])) = !l.isEmpty := by cases l <;> rfl
theorem sh__law_is_ring (C : Cl) : Shows (sp__law_is_ring C) 5 (rd__law_is_ring C) := by
  intro ds M q e h
  obtain ⟨d, t, rfl, ls, ns, hl, hd, rfl, R, hq⟩ := ar2_of h
  have h6 := hl.2.1
  have nd := R.nd
  have rg := R.rg
  have hn6 : ns.length ≤ 6 := by
    have := nodup_lenG (ms := ns) (ns := zxs ls.length) nd fun k hk => zxs_mem.mpr (rg k hk)
    rw [zxs_len] at this
    omega
  generalize hw : (fun cls fs (x : Rho) M' => ∃ M2, MLe M2 M' ∧ e cls fs M2 : PWi) = w
  obtain ⟨t, ht0⟩ : ∃ t, t = D.lst (ns.map .int) := ⟨_, rfl⟩
  have ht : t = .lst (ns.map .int) ∨ t = .tup (ns.map .int) := .inl ht0
  rw [← ht0]
  have el : ∀ {ρ : Rho}, gt ρ 1 = some (.val t) → Ev (dB1 fLen (dVar 1)) w ρ M (.int (ns.length : Nat)) := fun hg => by
    have := ev_b1 (ev_var (w := w) (M := M) hg) (o1_lenQ ht)
    rwa [List.length_map] at this
  have e2 := evt (ev_op (el (ρ := [some (.val d), some (.val t), none, none, none]) rfl) (ev_c (d := .int 2)) (o2_cmp (p := fun i j => decide (i < j))))
  have big := R.big
  rw [decide_eq_false (by omega)] at e2
  have e3 : EvT (dTst (dOp fNe (dL (dSortL (dVar 1))) (dL (dG1 fSortI (dVar 1))))) w [some (.val d), some (.val t), none, none, none] M false := evt_srt (by rw [← ht0]; exact ev_var rfl) nd (by omega)
  refine sqIfFN (evt_orF e2 e3) ?_
  have ei : ∀ {ρ : Rho} {pk : PTE} {k : Nat}, gt ρ 1 = some (.val t) → k < ns.length → Ev pk w ρ M (.int (k : Int)) → Ev (dOp fIx (dVar 1) pk) w ρ M (.int (ns.getD k 0)) := fun hg hk hp => ev_op (ev_var hg) hp (o2_ixQ ht (atI_get hk))
  refine sqStep (if_ev (evt (ev_op (el rfl) ev_c o2_eqI)) (fun z => ?_) (fun z => ?_))
  · have z := of_decide_eq_true z
    subst hw
    obtain ⟨x, y, rfl⟩ : ∃ x y, ns = [x, y] := by
      match ns, z with
      | [x, y], _ => exact ⟨x, y, rfl⟩
    refine ret_ev (d := .bl true) ?_ ⟨M, MLe.refl _, hq⟩
    have g0 := rg x (by simp)
    have g1 := rg y (by simp)
    have := ev_op (ev_bondL (C := C) hl hd g0 g1 (ev_var (i := 0) rfl) (ei (k := 0) rfl (by show 0 < 2; decide) ev_c) (ei (ρ := [some (.val d), some (.val t), none, none, none]) (k := 1) rfl (by show 1 < 2; decide) ev_c)) (ev_tup (eva_cons (ev_c (d := .bl false)) (eva_cons (ev_c (d := .bl false)) eva_nil)) (by show 2 ≤ 1000000; decide)) (o2_eq (bdD_ok ls _) rfl)
    rw [bdD_ff, R.two x y rfl] at this
    exact this
  · have z := of_decide_eq_false z
    obtain ⟨x, s, rfl⟩ : ∃ x s, ns = x :: s := by
      match ns, big with
      | x :: s, _ => exact ⟨x, s, rfl⟩
    obtain ⟨lg1, lg2⟩ := R.long x s rfl (by omega)
    have okB : ∀ {f : D → Bool}, okD 50 (.lst (((cyc (lstI x s) (x :: s)).map (bdD ls)).filter f)) = true := fun {f} => by
      show ((((cyc (lstI x s) (x :: s)).map (bdD ls)).filter f).all (okD 49)) = true
      rw [List.all_eq_true]
      intro y hy
      obtain ⟨p, _, rfl⟩ := List.mem_map.mp (List.mem_filter.mp hy).1
      rfl
    have c2 : EvA (dComp [3] (iR1 (dB1 fLen (dVar 1))) (gNm 3) dYes (dCall (sp__law_bond C) [] (dCons (dOp fIx (dVar 0) (dOp fIx (dVar 1) (dOp fSub (dVar 3) (dC (.int 1))))) (dCons (dOp fIx (dVar 0) (dOp fIx (dVar 1) (dVar 3))) dNil)))) w [some (.val d), some (.val t), none, none, none] M ((cyc (lstI x s) (x :: s)).map (bdD ls)) := by
      intro κ hκ
      refine ⟨rfl, ?_⟩
      refine el rfl _ ⟨by omega, by omega, ?_⟩
      rw [show (((x :: s).length : Nat) : Int).toNat = (x :: s).length by omega, rngZ']
      refine compR_map (fun d => match d with | .int k => bdD ls ((lstI x s :: x :: s).getD k.toNat 0, (x :: s).getD k.toNat 0) | _ => .non) _ (fun y hy kt kf hk => ?_) (by rw [List.length_map, List.length_range]; omega) ?_
      · obtain ⟨k, hk2, rfl⟩ := List.mem_map.mp hy
        have hk3 := List.mem_range.mp hk2
        obtain ⟨p1, p2⟩ := atI_pre hk3
        have eB : Ev (dCall (sp__law_bond C) [] (dCons (dOp fIx (dVar 0) (dOp fIx (dVar 1) (dOp fSub (dVar 3) (dC (.int 1))))) (dCons (dOp fIx (dVar 0) (dOp fIx (dVar 1) (dVar 3))) dNil))) w0 [some (.val d), some (.val t), none, some (.val (.int (k : Int))), none] M (bdD ls ((lstI x s :: x :: s).getD k 0, (x :: s).getD k 0)) :=
          ev_bondL (C := C) hl hd (rg _ p2) (rg _ (getD_mem hk3)) (ev_var (i := 0) rfl) (ev_op (ev_var (i := 1) rfl) (ev_op (ev_var (i := 3) (d := .int (k : Int)) rfl) ev_c o2_sub) (o2_ixQ ht p1)) (ev_op (ev_var (i := 1) rfl) (ev_var (i := 3) (d := .int (k : Int)) rfl) (o2_ixQ ht (atI_get hk3)))
        exact eB _ hk
      · have e9 : ((List.range (x :: s).length).map fun k : Nat => D.int (k : Int)).map (fun d => match d with | .int k => bdD ls ((lstI x s :: x :: s).getD k.toNat 0, (x :: s).getD k.toNat 0) | _ => .non) = (cyc (lstI x s) (x :: s)).map (bdD ls) := by
          rw [List.map_map, cyc_map, List.map_map]
          rfl
        rw [e9]
        exact hκ
    refine sqSet (ev_lc c2) ?_
    generalize hL : cyc (lstI x s) (x :: s) = L at *
    have hlen : L.length ≤ 6 := by rw [← hL, cyc_map, List.length_map, List.length_range]; exact hn6
    have c3 : EvA (dComp [4] (iA (dVar 2)) (gNm 4) (dTst (dOp fEq (dOp fIx (dVar 4) (dC (.int 0))) (dOp fIx (dVar 4) (dC (.int 1))))) (dVar 4)) w [some (.val d), some (.val t), some (.val (.lst (L.map (bdD ls)))), none, none] M ((L.map (bdD ls)).filter eqBd) := by
      intro κ hκ
      refine ⟨rfl, ?_⟩
      refine compR_flt eqBd (L.map (bdD ls)) (fun y hy kt kf hk => ?_) (by rw [List.length_map]; omega) hκ
      obtain ⟨p, hp, rfl⟩ := List.mem_map.mp hy
      have eI : EvT (dTst (dOp fEq (dOp fIx (dVar 4) (dC (.int 0))) (dOp fIx (dVar 4) (dC (.int 1))))) w0 [some (.val d), some (.val t), some (.val (.lst (L.map (bdD ls)))), none, some (.val (bdD ls p))] M (alk ls p.1.toNat p.2.toNat == unl ls p.1.toNat p.2.toNat) :=
        evt (ev_op (ev_op (ev_var (i := 4) (d := bdD ls p) rfl) (ev_c (d := .int 0)) (o2_ixT atI_01.1)) (ev_op (ev_var (i := 4) (d := bdD ls p) rfl) (ev_c (d := .int 1)) (o2_ixT atI_01.2)) (o2_eqBB _ _))
      refine eI _ ?_
      have hk : if (alk ls p.1.toNat p.2.toNat == unl ls p.1.toNat p.2.toNat) = true then kt (bdD ls p) M else kf M := hk
      cases hb : alk ls p.1.toNat p.2.toNat == unl ls p.1.toNat p.2.toNat with
      | false => rw [hb] at hk; exact hk
      | true => rw [hb] at hk; exact ev_var (w := w0) (ρ := [some (.val d), some (.val t), some (.val (.lst (L.map (bdD ls)))), none, some (.val (bdD ls p))]) (i := 4) (d := bdD ls p) rfl _ hk
    have e5 : EvT (dTst (dOp fNe (dL (dComp [4] (iA (dVar 2)) (gNm 4) (dTst (dOp fEq (dOp fIx (dVar 4) (dC (.int 0))) (dOp fIx (dVar 4) (dC (.int 1))))) (dVar 4))) (dL (dLst dNil)))) w [some (.val d), some (.val t), some (.val (.lst (L.map (bdD ls)))), none, none] M (!L.all fun p => jn ls p.1.toNat p.2.toNat) := by
      have := evt (ev_op (ev_lc c3) (ev_lst eva_nil (by decide)) (o2_ne okB rfl))
      rw [neB_nil] at this
      rwa [ring_tailQ] at this
    rw [List.all_eq_true.mpr lg1] at e5
    refine sqIfFN e5 ?_
    have j1 : ∀ p ∈ L, jn ls p.1.toNat p.2.toNat = true := lg1
    have c4 : EvA (dComp [4] (iA (dVar 2)) (gNm 4) (dTst (dOp fIx (dVar 4) (dC (.int 1)))) (dVar 4)) w [some (.val d), some (.val t), some (.val (.lst (L.map (bdD ls)))), none, none] M ((L.map (bdD ls)).filter sndBd) := by
      intro κ hκ
      refine ⟨rfl, ?_⟩
      refine compR_flt sndBd (L.map (bdD ls)) (fun y hy kt kf hk => ?_) (by rw [List.length_map]; omega) hκ
      obtain ⟨p, hp, rfl⟩ := List.mem_map.mp hy
      have eI : EvT (dTst (dOp fIx (dVar 4) (dC (.int 1)))) w0 [some (.val d), some (.val t), some (.val (.lst (L.map (bdD ls)))), none, some (.val (bdD ls p))] M (unl ls p.1.toNat p.2.toNat) :=
        evt (ev_op (ev_var (i := 4) (d := bdD ls p) rfl) (ev_c (d := .int 1)) (o2_ixT atI_01.2))
      refine eI _ ?_
      have hk : if unl ls p.1.toNat p.2.toNat = true then kt (bdD ls p) M else kf M := hk
      cases hb : unl ls p.1.toNat p.2.toNat with
      | false => rw [hb] at hk; exact hk
      | true => rw [hb] at hk; exact ev_var (w := w0) (ρ := [some (.val d), some (.val t), some (.val (.lst (L.map (bdD ls)))), none, some (.val (bdD ls p))]) (i := 4) (d := bdD ls p) rfl _ hk
    have e6 := ev_op (ev_op (ev_b1 (ev_lc c4) o1_lenL) (ev_c (d := .int 2)) (o2_mod (by decide))) (ev_c (d := .int 1)) o2_eqI
    rw [ring_oddQ L j1] at e6
    rw [show decide ((((L.countP (unk ls)) : Nat) : Int) % 2 = 1) = decide (L.countP (unk ls) % 2 = 1) from decide_eq_decide.mpr (by omega)] at e6
    rw [decide_eq_true lg2] at e6
    subst hw
    exact ret_ev e6 ⟨M, MLe.refl _, hq⟩
end Px
set_option Elab.async false
set_option linter.all false
set_option maxRecDepth 100000
namespace Px
open PySem PySem.Spec PyProof.Rows L2
def pm1 (a : Int) : Prop := a = 1 ∨ a = -1
def Tp (α β : Nat → Int) : Nat → Int
  | 0 => 1
  | i + 1 => Tp α β i * (α i * β (i + 1))
def prT (τ : Nat → Int) : Nat → Int
  | 0 => 1
  | i + 1 => prT τ i * τ i
theorem Tp_pm {α β : Nat → Int} (ha : ∀ i, pm1 (α i)) (hb : ∀ i, pm1 (β i)) : ∀ i, pm1 (Tp α β i)
  | 0 => .inl rfl
  | i + 1 => pm_mul (Tp_pm ha hb i) (pm_mul (ha i) (hb (i + 1)))
theorem Tp_pr {α β : Nat → Int} : ∀ i, Tp α β i * α i * β 0 = prT (fun j => α j * β j) (i + 1)
  | 0 => by simp [Tp, prT]
  | i + 1 => by
    have ih := Tp_pr (α := α) (β := β) i
    show Tp α β i * (α i * β (i + 1)) * α (i + 1) * β 0 = prT (fun j => α j * β j) (i + 1) * (α (i + 1) * β (i + 1))
    rw [← ih]
    grind
structure Rnd (ls : List (Int × Int)) (α β : Nat → Int) : Prop where
  m3 : 3 ≤ ls.length
  m6 : ls.length ≤ 6
  pa : ∀ i, pm1 (α i)
  pb : ∀ i, pm1 (β i)
  nxt : ∀ i, i + 1 < ls.length → jn ls i (i + 1) = true ∧ sgn ls i (i + 1) = α i * β (i + 1)
  lst : jn ls (ls.length - 1) 0 = true ∧ sgn ls (ls.length - 1) 0 = α (ls.length - 1) * β 0
  far : ∀ i j, i < j → j < ls.length → i + 1 ≠ j → ¬ (i = 0 ∧ j + 1 = ls.length) → jn ls i j = false ∧ clh ls i j = false
section
variable {ls : List (Int × Int)} {α β : Nat → Int}
theorem jn_ncl {i j : Nat} (h : jn ls i j = true) : clh ls i j = false := by
  unfold jn at h
  unfold clh
  revert h
  cases alk ls i j <;> cases unl ls i j <;> decide
theorem self_ncl (i : Nat) : clh ls i i = false := by unfold clh; rw [alk_self]; rfl
theorem sgn_self (i : Nat) : sgn ls i i = 1 := by unfold sgn; rw [alk_self]; rfl
theorem Rnd.cases (R : Rnd ls α β) {i j : Nat} (hi : i < j) (hj : j < ls.length) : j = i + 1 ∨ (i = 0 ∧ j + 1 = ls.length) ∨ (jn ls i j = false ∧ clh ls i j = false) := by
  by_cases c : i + 1 = j
  · exact .inl c.symm
  · by_cases c2 : i = 0 ∧ j + 1 = ls.length
    · exact .inr (.inl c2)
    · exact .inr (.inr (R.far i j hi hj c c2))
theorem Rnd.ncl (R : Rnd ls α β) {i j : Nat} (hi : i < ls.length) (hj : j < ls.length) : clh ls i j = false := by
  have key : ∀ i j, i < j → j < ls.length → clh ls i j = false := fun i j h hj => by
    rcases R.cases h hj with rfl | ⟨rfl, e⟩ | h
    · exact jn_ncl (R.nxt i hj).1
    · have := R.lst.1
      rw [show ls.length - 1 = j by omega] at this
      rw [clh_symm]; exact jn_ncl this
    · exact h.2
  rcases Nat.lt_trichotomy i j with h | rfl | h
  · exact key i j h hj
  · exact self_ncl i
  · rw [clh_symm]; exact key j i h hi
theorem Rnd.even (R : Rnd ls α β) (he : prT (fun j => α j * β j) ls.length = 1) : isN (ringD ls) = true := by
  have m3 := R.m3
  have hT := Tp_pm R.pa R.pb
  have cl : Tp α β (ls.length - 1) * Tp α β 0 = α (ls.length - 1) * β 0 := by
    have h1 := Tp_pr (α := α) (β := β) (ls.length - 1)
    rw [show ls.length - 1 + 1 = ls.length by omega, he] at h1
    show Tp α β (ls.length - 1) * 1 = _
    rcases hT (ls.length - 1) with e | e <;> rcases R.pa (ls.length - 1) with e1 | e1 <;> rcases R.pb 0 with e2 | e2 <;> rw [e, e1, e2] at h1 <;> rw [e, e1, e2] <;> first | rfl | (exfalso; revert h1; decide)
  have bd : ∀ i j, i < ls.length → j < ls.length → jn ls i j = true → Tp α β i * Tp α β j = sgn ls i j := by
    have key : ∀ i j, i < j → j < ls.length → jn ls i j = true → Tp α β i * Tp α β j = sgn ls i j := fun i j h hj hn => by
      rcases R.cases h hj with rfl | ⟨rfl, e⟩ | h
      · rw [(R.nxt i hj).2]
        show Tp α β i * (Tp α β i * (α i * β (i + 1))) = _
        rw [← Int.mul_assoc, pm_sq (hT i), Int.one_mul]
      · have := R.lst.2
        rw [show ls.length - 1 = j by omega] at this cl
        rw [sgn_symm, this, ← cl, Int.mul_comm]
      · rw [h.1] at hn; cases hn
    intro i j hi hj hn
    rcases Nat.lt_trichotomy i j with h | rfl | h
    · exact key i j h hj hn
    · rw [sgn_self]; exact pm_sq (hT i)
    · rw [Int.mul_comm, sgn_symm]; exact key j i h hi (by rw [jn_symm]; exact hn)
  have T := net_tree ls
  have eS : ∀ i, i ∈ (netF ls).L → (netF ls).S i = Tp α β i * Tp α β ((netF ls).Hd i) := T.ind (fun i hi e => by
    obtain ⟨a, b⟩ := T.root i hi e
    rw [a, b, pm_sq (hT i)]) fun i j hi e hj ih => by
    obtain ⟨s1, s2, s3, s4, s5⟩ := T.step i j hi e
    rw [s4, s5, ih, ← bd j i ((T.all j).mp s1) ((T.all i).mp hi) s3]
    have := pm_sq (hT j)
    grind
  refine (ring_ok ls).mpr fun i j hi hj => ⟨R.ncl hi hj, fun hn => ?_⟩
  have iL := (T.all i).mpr hi
  have jL := (T.all j).mpr hj
  rw [eS i iL, eS j jL, T.clo i j iL jL hn, ← bd i j hi hj hn]
  have := pm_sq (hT ((netF ls).Hd j))
  grind
theorem Rnd.odd (R : Rnd ls α β) (he : prT (fun j => α j * β j) ls.length = -1) : isN (ringD ls) = false := by
  cases c : isN (ringD ls) with
  | false => rfl
  | true =>
    exfalso
    have m3 := R.m3
    have o := (ring_ok ls).mp c
    have T := net_tree ls
    have hS : ∀ i, i < ls.length → pm1 ((netF ls).S i) := fun i hi => T.pm i ((T.all i).mpr hi)
    have key : ∀ i, i < ls.length → (netF ls).S i = Tp α β i * (netF ls).S 0 := by
      intro i
      induction i with
      | zero => intro _; show _ = 1 * _; rw [Int.one_mul]
      | succ i ih =>
        intro hi
        have h1 := (o i (i + 1) (by omega) hi).2 (R.nxt i hi).1
        rw [(R.nxt i hi).2, ih (by omega)] at h1
        show _ = Tp α β i * (α i * β (i + 1)) * (netF ls).S 0
        have a := pm_sq (Tp_pm R.pa R.pb i)
        have b := pm_sq (hS 0 (by omega))
        rw [← h1]
        grind
    have h2 := (o (ls.length - 1) 0 (by omega) (by omega)).2 R.lst.1
    rw [R.lst.2, key _ (by omega)] at h2
    have h1 := Tp_pr (α := α) (β := β) (ls.length - 1)
    rw [show ls.length - 1 + 1 = ls.length by omega, he] at h1
    have b := pm_sq (hS 0 (by omega))
    have a := pm_sq (R.pa (ls.length - 1))
    have d := pm_sq (R.pb 0)
    have h3 : Tp α β (ls.length - 1) = α (ls.length - 1) * β 0 := by rw [← h2, Int.mul_assoc, b, Int.mul_one]
    rw [h3] at h1
    have : (α (ls.length - 1) * α (ls.length - 1)) * (β 0 * β 0) = -1 := by rw [← h1]; grind
    rw [a, d] at this
    cases this
theorem Rnd.head (R : Rnd ls α β) : ∀ i, i < ls.length → (netF ls).Hd i = (netF ls).Hd 0
  | 0, _ => rfl
  | i + 1, h => by
    have T := net_tree ls
    rw [← T.clo i (i + 1) ((T.all i).mpr (by omega)) ((T.all _).mpr h) (R.nxt i h).1]
    exact R.head i (by omega)
theorem Rnd.cls (R : Rnd ls α β) (k : Lk ls) : (clsL ls (netF ls).Hd).length = 1 := by
  have T := net_tree ls
  have m3 := R.m3
  have h0 : 0 ∈ (netF ls).L := (T.all 0).mpr (by omega)
  have hh := (T.head 0 h0).1
  have hl := (T.all _).mp hh
  have mid : ∀ i, i < ls.length → mid ls i := fun i hi => by
    by_cases c : i + 1 < ls.length
    · exact jn_mid k hi (R.nxt i c).1
    · have := R.lst.1
      rw [show ls.length - 1 = i by omega] at this
      exact jn_mid k hi this
  have := len_ext (ms := clsL ls (netF ls).Hd) (ns := [(netF ls).Hd 0]) clsL_nodup (by simp) fun i => by
    rw [clsL_mem, List.mem_singleton]
    constructor
    · rintro ⟨h1, h2, _⟩
      rw [← h2, R.head i h1]
    · rintro rfl
      exact ⟨hl, (T.headhead h0).1, mid _ hl⟩
  rw [this]; rfl
theorem Rnd.fit1 (R : Rnd ls α β) (k : Lk ls) (he : prT (fun j => α j * β j) ls.length = 1) : fitN ls = 1 := by
  unfold fitN
  rw [if_pos (R.even he), R.cls k, if_neg (by decide)]
  rfl
end
def adjB (m x y : Nat) : Bool := decide (x + 1 = y ∨ y + 1 = x ∨ (x = 0 ∧ y + 1 = m) ∨ (y = 0 ∧ x + 1 = m))
def w3 (m : Nat) : Prop := ∀ a, a < m → ∀ b, b < m → adjB m a b = true → ∀ c, c < m → adjB m b c = true → adjB m c a = true → a ≠ c → m = 3
def w4 (m : Nat) : Prop := ∀ a, a < m → ∀ b, b < m → adjB m a b = true → ∀ c, c < m → adjB m b c = true → a ≠ c → ∀ d, d < m → adjB m c d = true → b ≠ d → adjB m d a = true → m = 4
def w5 (m : Nat) : Prop := ∀ a, a < m → ∀ b, b < m → adjB m a b = true → ∀ c, c < m → adjB m b c = true → a ≠ c → ∀ d, d < m → adjB m c d = true → b ≠ d → ∀ e, e < m → adjB m d e = true → c ≠ e → adjB m e a = true → m = 5
set_option synthInstance.maxHeartbeats 0 in
set_option synthInstance.maxSize 100000 in
instance (m : Nat) : Decidable (w3 m) := by unfold w3; infer_instance
set_option synthInstance.maxHeartbeats 0 in
set_option synthInstance.maxSize 100000 in
instance (m : Nat) : Decidable (w4 m) := by unfold w4; infer_instance
set_option synthInstance.maxHeartbeats 0 in
set_option synthInstance.maxSize 100000 in
instance (m : Nat) : Decidable (w5 m) := by unfold w5; infer_instance
theorem w_all {m : Nat} (h6 : m ≤ 6) : (3 < m → w3 m) ∧ (4 < m → w4 m) ∧ (5 < m → w5 m) := by
  rcases (by omega : m ≤ 3 ∨ m = 4 ∨ m = 5 ∨ m = 6) with h | rfl | rfl | rfl
  · exact ⟨fun z => by omega, fun z => by omega, fun z => by omega⟩
  · exact ⟨fun _ => by decide +kernel, fun z => by omega, fun z => by omega⟩
  · exact ⟨fun _ => by decide +kernel, fun _ => by decide +kernel, fun z => by omega⟩
  · exact ⟨fun _ => by decide +kernel, fun _ => by decide +kernel, fun _ => by decide +kernel⟩
section
variable {ls : List (Int × Int)} {α β : Nat → Int}
theorem Rnd.adj (R : Rnd ls α β) {x y : Nat} (hx : x < ls.length) (hy : y < ls.length) (ne : x ≠ y) (h : jn ls x y = true) : adjB ls.length x y = true := by
  unfold adjB
  rw [decide_eq_true_iff]
  rcases Nat.lt_trichotomy x y with z | z | z
  · rcases R.cases z hy with e | e | e
    · omega
    · omega
    · rw [e.1] at h; cases h
  · exact absurd z ne
  · rcases R.cases z hx with e | e | e
    · omega
    · omega
    · rw [jn_symm, e.1] at h; cases h
theorem Rnd.ring_len (R : Rnd ls α β) {r : List Int} (g : Rg ls r) : r.length = ls.length := by
  have hr6 : r.length ≤ ls.length := by
    have := nodup_lenG (ms := r) (ns := zxs ls.length) g.nd fun k hk => zxs_mem.mpr (g.rg k hk)
    rwa [zxs_len] at this
  by_cases hlt : r.length < ls.length
  case neg => omega
  exfalso
  have m6 := R.m6
  have n2 : r.length ≠ 2 := fun z => by
    obtain ⟨x, y, rfl⟩ : ∃ x y, r = [x, y] := by
      match r, z with
      | [x, y], _ => exact ⟨x, y, rfl⟩
    have gx := g.rg x (by simp)
    have gy := g.rg y (by simp)
    have := g.two x y rfl
    rw [R.ncl (by omega) (by omega)] at this
    cases this
  obtain ⟨k3, k4, k5⟩ := w_all R.m6
  have big := g.big
  have nd := g.nd
  have rg := g.rg
  have lg := g.long
  have A : ∀ x y : Int, x ∈ r → y ∈ r → x ≠ y → jn ls x.toNat y.toNat = true → adjB ls.length x.toNat y.toNat = true   := fun x y hx hy ne h => by
    have h1 := rg _ hx
    have h2 := rg _ hy
    exact R.adj (by omega) (by omega) (by omega) h
  have B : ∀ x : Int, x ∈ r → x.toNat < ls.length := fun x hx => by have := rg _ hx; omega
  have N : ∀ x y : Int, x ∈ r → y ∈ r → x ≠ y → x.toNat ≠ y.toNat := fun x y hx hy ne => by
    have h1 := rg _ hx
    have h2 := rg _ hy
    omega
  match r, big, n2, hlt, nd, lg, A, B, N with
  | [_], big, _, _, _, _, _, _, _ => exact absurd (show 2 ≤ 1 from big) (by decide)
  | [], big, _, _, _, _, _, _, _ => exact absurd (show 2 ≤ 0 from big) (by decide)
  | [_, _], _, n2, _, _, _, _, _, _ => exact absurd rfl n2
  | [a, b, c], _, n2, hl, nd, lg, A, B, N =>
    obtain ⟨j, _⟩ := lg a _ rfl n2
    have j1 := j (c, a) (by simp [cyc, lstI])
    have j2 := j (a, b) (by simp [cyc, lstI])
    have j3 := j (b, c) (by simp [cyc, lstI])
    simp only [List.nodup_cons, List.mem_cons, List.not_mem_nil, or_false, not_or, not_false_eq_true, List.nodup_nil, and_true] at nd
    have hl : 3 < ls.length := hl
    have := k3 hl _ (B _ (by simp)) _ (B _ (by simp)) (A _ _ (by simp) (by simp) nd.1.1 j2) _ (B _ (by simp)) (A _ _ (by simp) (by simp) nd.2 j3) (A _ _ (by simp) (by simp) (fun z => nd.1.2 z.symm) j1) (N _ _ (by simp) (by simp) nd.1.2)
    omega
  | [a, b, c, d], _, n2, hl, nd, lg, A, B, N =>
    obtain ⟨j, _⟩ := lg a _ rfl n2
    have j1 := j (d, a) (by simp [cyc, lstI])
    have j2 := j (a, b) (by simp [cyc, lstI])
    have j3 := j (b, c) (by simp [cyc, lstI])
    have j4 := j (c, d) (by simp [cyc, lstI])
    simp only [List.nodup_cons, List.mem_cons, List.not_mem_nil, or_false, not_or, not_false_eq_true, List.nodup_nil, and_true] at nd
    obtain ⟨⟨ab, ac, ad⟩, ⟨bc, bd⟩, cd⟩ := nd
    have hl : 4 < ls.length := hl
    have := k4 hl _ (B _ (by simp)) _ (B _ (by simp)) (A _ _ (by simp) (by simp) ab j2) _ (B _ (by simp)) (A _ _ (by simp) (by simp) bc j3) (N _ _ (by simp) (by simp) ac) _ (B _ (by simp)) (A _ _ (by simp) (by simp) cd j4) (N _ _ (by simp) (by simp) bd) (A _ _ (by simp) (by simp) (fun z => ad z.symm) j1)
    omega
  | [a, b, c, d, e], _, n2, hl, nd, lg, A, B, N =>
    obtain ⟨j, _⟩ := lg a _ rfl n2
    have j1 := j (e, a) (by simp [cyc, lstI])
    have j2 := j (a, b) (by simp [cyc, lstI])
    have j3 := j (b, c) (by simp [cyc, lstI])
    have j4 := j (c, d) (by simp [cyc, lstI])
    have j5 := j (d, e) (by simp [cyc, lstI])
    simp only [List.nodup_cons, List.mem_cons, List.not_mem_nil, or_false, not_or, not_false_eq_true, List.nodup_nil, and_true] at nd
    obtain ⟨⟨ab, ac, ad, ae⟩, ⟨bc, bd, be⟩, ⟨cd, ce⟩, de⟩ := nd
    have hl : 5 < ls.length := hl
    have := k5 hl _ (B _ (by simp)) _ (B _ (by simp)) (A _ _ (by simp) (by simp) ab j2) _ (B _ (by simp)) (A _ _ (by simp) (by simp) bc j3) (N _ _ (by simp) (by simp) ac) _ (B _ (by simp)) (A _ _ (by simp) (by simp) cd j4) (N _ _ (by simp) (by simp) bd) _ (B _ (by simp)) (A _ _ (by simp) (by simp) de j5) (N _ _ (by simp) (by simp) ce) (A _ _ (by simp) (by simp) (fun z => ae z.symm) j1)
    omega
  | _ :: _ :: _ :: _ :: _ :: _ :: _, _, _, h, _, _, _, _, _ => exact absurd h (by simp only [List.length_cons]; omega)
theorem Rnd.ring_mem (R : Rnd ls α β) {r : List Int} (g : Rg ls r) (k : Int) : k ∈ zxs ls.length ↔ k ∈ r := by
  refine ⟨fun h => ?_, fun h => zxs_mem.mpr (g.rg k h)⟩
  refine Classical.byContradiction fun c => ?_
  have h1 := nodup_lenG (ms := k :: r) (ns := zxs ls.length) (List.nodup_cons.mpr ⟨c, g.nd⟩) fun x hx => by
    rcases List.mem_cons.mp hx with rfl | hx
    · exact h
    · exact zxs_mem.mpr (g.rg x hx)
  rw [zxs_len, List.length_cons, R.ring_len g] at h1
  omega
end
end Px
set_option Elab.async false
set_option linter.all false
set_option maxRecDepth 100000
namespace Px
open PySem PySem.Spec PyProof.Rows L2
abbrev bs7 : List Int := [2, 3, 5, 7, 11, 13]
theorem bs_pos : ∀ p ∈ bs7, 2 ≤ p ∧ p ≤ 13 := by decide
theorem bs_tri : ∀ a ∈ bs7, ∀ b ∈ bs7, ∀ c ∈ bs7, a ≠ b → a ≠ c → b ≠ c → g0 (a * b) (c * a) = a := by decide +kernel
theorem bs_far : ∀ a ∈ bs7, ∀ b ∈ bs7, ∀ c ∈ bs7, ∀ d ∈ bs7, a ≠ c → a ≠ d → b ≠ c → b ≠ d → g0 (a * b) (c * d) = 1 := by decide +kernel
theorem bs_two : ∀ a ∈ bs7, ∀ b ∈ bs7, a ≠ b → g0 (2 * a) (2 * b) = 2 := by decide +kernel
theorem bs_lc : ∀ a ∈ bs7, ∀ b ∈ bs7, a ≠ b → a * b ≤ 1000 := by decide
def Free7 (n : Int) : Prop := 0 ≤ n ∧ ∀ p ∈ bs7, ¬ p ∣ n
structure Ps (ps : List Int) : Prop where
  nd : ps.Nodup
  bs : ∀ p ∈ ps, p ∈ bs7
  m3 : 3 ≤ ps.length
def pP (ps : List Int) (i : Nat) : Int := ps.getD i 0
def pQ (ps : List Int) (i : Nat) : Int := if i = 0 then ps.getD (ps.length - 1) 0 else ps.getD (i - 1) 0
structure LR (ps : List Int) (n : Int) (i : Nat) (p : Int × Int) (a b : Int) : Prop where
  h : p.1 = pP ps i * pQ ps i
  s0 : 0 ≤ p.2
  s1 : p.2 ≤ p.1
  pa : pm1 a
  pb : pm1 b
  da : 2 * pP ps i ∣ p.2 - a * n
  db : 2 * pQ ps i ∣ p.2 - b * n
section
variable {ps : List Int} {n : Int}
theorem Ps.len (P : Ps ps) : ps.length ≤ 6 := by
  have := nodup_lenG P.nd (ns := bs7) P.bs
  exact this
theorem Ps.get (P : Ps ps) {i : Nat} (h : i < ps.length) : ps.getD i 0 ∈ bs7 := P.bs _ (getD_mem h)
theorem Ps.inj (P : Ps ps) {i j : Nat} (hi : i < ps.length) (hj : j < ps.length) (ne : i ≠ j) : ps.getD i 0 ≠ ps.getD j 0 := fun e => by
  rw [List.getD_eq_getElem?_getD, List.getD_eq_getElem?_getD, List.getElem?_eq_getElem hi, List.getElem?_eq_getElem hj] at e
  have e : ps[i] = ps[j] := e
  have pw := List.pairwise_iff_getElem.mp P.nd
  rcases Nat.lt_or_ge i j with h | h
  · exact pw i j hi hj h e
  · exact pw j i hj hi (by omega) e.symm
theorem Ps.q (P : Ps ps) {i : Nat} (h : i < ps.length) : ∃ j, j < ps.length ∧ pQ ps i = ps.getD j 0 ∧ j ≠ i ∧ (i = 0 → j = ps.length - 1) ∧ (0 < i → j + 1 = i) := by
  have m3 := P.m3
  unfold pQ
  by_cases c : i = 0
  · rw [if_pos c]
    exact ⟨_, by omega, rfl, by omega, fun _ => rfl, fun z => by omega⟩
  · rw [if_neg c]
    exact ⟨i - 1, by omega, rfl, by omega, fun z => absurd z c, fun _ => by omega⟩
theorem Ps.pq (P : Ps ps) {i : Nat} (h : i < ps.length) : pP ps i ∈ bs7 ∧ pQ ps i ∈ bs7 ∧ pP ps i ≠ pQ ps i := by
  obtain ⟨j, hj, e, ne, _⟩ := P.q h
  rw [e]
  exact ⟨P.get h, P.get hj, P.inj h hj (Ne.symm ne)⟩
theorem Free7.odd (f : Free7 n) : n % 2 = 1 := by
  have := f.2 2 (by decide)
  omega
theorem free_eq (f : Free7 n) {p a b : Int} (hp : p ∈ bs7) (ha : pm1 a) (hb : pm1 b) (h : 2 * p ∣ a * n - b * n) : a = b := by
  have np := f.2 p hp
  rcases ha with rfl | rfl <;> rcases hb with rfl | rfl
  · rfl
  · exfalso
    obtain ⟨k, e⟩ := h
    exact np ⟨k, by have : 2 * p * k = 2 * (p * k) := Int.mul_assoc ..; omega⟩
  · exfalso
    obtain ⟨k, e⟩ := h
    exact np ⟨-k, by have : 2 * p * k = 2 * (p * k) := Int.mul_assoc ..; have : p * -k = -(p * k) := Int.mul_neg ..; omega⟩
  · rfl
theorem LR.odd (f : Free7 n) {i : Nat} {p : Int × Int} {a b : Int} (l : LR ps n i p a b) : p.2 % 2 = 1 := by
  have o := f.odd
  obtain ⟨k, e⟩ := l.da
  have e : p.2 - a * n = 2 * (pP ps i * k) := by rw [e, Int.mul_assoc]
  rcases l.pa with z | z <;> rw [z] at e <;> omega
theorem bondR {ls : List (Int × Int)} (f : Free7 n) {i j : Nat} {p a b : Int} (hp : p ∈ bs7) (hst : stL ls i j = 2 * p) (ha : pm1 a) (hb : pm1 b) (h1 : 2 * p ∣ sL ls i - a * n) (h2 : 2 * p ∣ sL ls j - b * n) : jn ls i j = true ∧ sgn ls i j = a * b := by
  have e1 : alk ls i j = true ↔ a = b := by
    rw [alk_iff, hst]
    constructor
    · intro h
      refine free_eq f hp ha hb ?_
      have := Int.dvd_add (Int.dvd_sub h h1) h2
      rw [show sL ls i - sL ls j - (sL ls i - a * n) + (sL ls j - b * n) = a * n - b * n by omega] at this
      exact this
    · rintro rfl
      have := Int.dvd_sub h1 h2
      rw [show sL ls i - a * n - (sL ls j - a * n) = sL ls i - sL ls j by omega] at this
      exact this
  have e2 : unl ls i j = true ↔ a = -b := by
    have hb' : pm1 (-b) := by rcases hb with rfl | rfl; exact .inr rfl; exact .inl rfl
    rw [unl_iff, hst]
    constructor
    · intro h
      refine free_eq f hp ha hb' ?_
      have := Int.dvd_sub (Int.dvd_sub h h1) h2
      rw [show sL ls i + sL ls j - (sL ls i - a * n) - (sL ls j - b * n) = a * n - -b * n by rw [Int.neg_mul]; omega] at this
      exact this
    · rintro rfl
      have := Int.dvd_add h1 h2
      rw [show sL ls i - -b * n + (sL ls j - b * n) = sL ls i + sL ls j by rw [Int.neg_mul]; omega] at this
      exact this
  unfold jn sgn
  rcases ha with rfl | rfl <;> rcases hb with rfl | rfl
  · have x := e1.mpr rfl
    have y : unl ls i j = false := by cases c : unl ls i j with | false => rfl | true => exact absurd (e2.mp c) (by decide)
    rw [x, y]; exact ⟨rfl, rfl⟩
  · have x := e2.mpr rfl
    have y : alk ls i j = false := by cases c : alk ls i j with | false => rfl | true => exact absurd (e1.mp c) (by decide)
    rw [x, y]; exact ⟨rfl, rfl⟩
  · have x := e2.mpr rfl
    have y : alk ls i j = false := by cases c : alk ls i j with | false => rfl | true => exact absurd (e1.mp c) (by decide)
    rw [x, y]; exact ⟨rfl, rfl⟩
  · have x := e1.mpr rfl
    have y : unl ls i j = false := by cases c : unl ls i j with | false => rfl | true => exact absurd (e2.mp c) (by decide)
    rw [x, y]; exact ⟨rfl, rfl⟩
theorem rnd_of {ls : List (Int × Int)} {α β : Nat → Int} (P : Ps ps) (f : Free7 n) (hl : ls.length = ps.length) (pa : ∀ i, pm1 (α i)) (pb : ∀ i, pm1 (β i)) (h : ∀ i (hi : i < ls.length), LR ps n i ls[i] (α i) (β i)) : Rnd ls α β ∧ LkOk ls := by
  have m3 := P.m3
  have m6 := P.len
  have at_ : ∀ i, i < ls.length → hL ls i = pP ps i * pQ ps i ∧ 2 * pP ps i ∣ sL ls i - α i * n ∧ 2 * pQ ps i ∣ sL ls i - β i * n ∧ sL ls i % 2 = 1 := fun i hi => by
    rw [(hL_at hi).1, (hL_at hi).2]
    exact ⟨(h i hi).h, (h i hi).da, (h i hi).db, (h i hi).odd f⟩
  refine ⟨⟨by omega, by omega, pa, pb, fun i hi => ?_, ?_, fun i j hij hj ne nl => ?_⟩, ?_⟩
  · obtain ⟨a1, a2, _, _⟩ := at_ i (by omega)
    obtain ⟨b1, _, b3, _⟩ := at_ (i + 1) hi
    have eq : pQ ps (i + 1) = pP ps i := by unfold pQ pP; rw [if_neg (by omega)]; rfl
    obtain ⟨j, hj, ej, nj, j0, j1⟩ := P.q (i := i) (by omega)
    refine bondR f (P.pq (i := i) (by omega)).1 ?_ (pa i) (pb (i + 1)) a2 (by rw [← eq]; exact b3)
    unfold stL
    rw [a1, b1, eq, ej]
    unfold pP
    rw [bs_tri _ (P.get (i := i) (by omega)) _ (P.get hj) _ (P.get (i := i + 1) (by omega)) (P.inj (by omega) hj (by omega)) (P.inj (by omega) (by omega) (by omega)) (P.inj hj (by omega) (by omega))]
  · obtain ⟨a1, a2, _, _⟩ := at_ (ls.length - 1) (by omega)
    obtain ⟨b1, _, b3, _⟩ := at_ 0 (by omega)
    have eq : pQ ps 0 = pP ps (ls.length - 1) := by unfold pQ pP; rw [if_pos rfl, hl]
    obtain ⟨j, hj, ej, nj, j0, j1⟩ := P.q (i := ls.length - 1) (by omega)
    refine bondR f (P.pq (i := ls.length - 1) (by omega)).1 ?_ (pa _) (pb 0) a2 (by rw [← eq]; exact b3)
    unfold stL
    rw [a1, b1, eq, ej]
    unfold pP
    rw [bs_tri _ (P.get (i := ls.length - 1) (by omega)) _ (P.get hj) _ (P.get (i := 0) (by omega)) (P.inj (by omega) hj (by omega)) (P.inj (by omega) (by omega) (by omega)) (P.inj hj (by omega) (by omega))]
  · obtain ⟨a1, _, _, a4⟩ := at_ i (by omega)
    obtain ⟨b1, _, _, b4⟩ := at_ j hj
    obtain ⟨k, hk, ek, nk, k0, k1⟩ := P.q (i := i) (by omega)
    obtain ⟨l, hl', el, nl', l0, l1⟩ := P.q (i := j) (by omega)
    have st : stL ls i j = 2 := by
      unfold stL
      rw [a1, b1, ek, el]
      unfold pP
      rw [bs_far _ (P.get (i := i) (by omega)) _ (P.get hk) _ (P.get (i := j) (by omega)) _ (P.get hl') (P.inj (by omega) (by omega) (by omega)) (P.inj (by omega) hl' (by omega)) (P.inj hk (by omega) (by omega)) (P.inj hk hl' (by omega))]
      rfl
    have e1 : alk ls i j = true := by rw [alk_iff, st]; omega
    have e2 : unl ls i j = true := by rw [unl_iff, st]; omega
    unfold jn clh
    rw [e1, e2]
    exact ⟨rfl, rfl⟩
  · refine ⟨fun z => by rw [z] at hl; simp at hl; omega, by omega, fun p hp => ?_⟩
    obtain ⟨i, hi, rfl⟩ := List.getElem_of_mem hp
    have g := h i hi
    obtain ⟨x, y, ne⟩ := P.pq (i := i) (by omega)
    have := bs_lc _ x _ y ne
    have px := bs_pos _ x
    have py := bs_pos _ y
    have : 1 ≤ pP ps i * pQ ps i := by
      have := Int.mul_le_mul (a := 1) (b := 1) (c := pP ps i) (d := pQ ps i) (by omega) (by omega) (by decide) (by omega)
      omega
    rw [g.h]
    exact ⟨⟨by omega, by omega⟩, g.s0, by rw [← g.h]; exact g.s1⟩
def TurnOk (P Q s t : Int) : Prop := ((t - s) % (2 * P) = 0 ∧ (t + s) % (2 * Q) = 0) ∨ ((t - s) % (2 * Q) = 0 ∧ (t + s) % (2 * P) = 0)
theorem turn_ex {P Q : Int} (hP : P ∈ bs7) (hQ : Q ∈ bs7) (ne : P ≠ Q) (s : Int) : ∃ t, 0 ≤ t ∧ t ≤ P * Q ∧ TurnOk P Q s t := by
  have p0 := bs_pos _ hP
  have q0 := bs_pos _ hQ
  obtain ⟨x, h1, h2⟩ := crt2 (M := 2 * P) (m := 2 * Q) (x0 := s) (r := -s) (by rw [bs_two _ hP _ hQ ne]; exact ⟨s, by omega⟩)
  have pq : 0 < P * Q := Int.mul_pos (by omega) (by omega)
  have g := near_rg (h := P * Q) (x := x) pq
  have d1 : 2 * P ∣ 2 * (P * Q) := ⟨Q, by rw [Int.mul_assoc]⟩
  have d2 : 2 * Q ∣ 2 * (P * Q) := ⟨P, by rw [Int.mul_comm P Q, Int.mul_assoc]⟩
  refine ⟨near (2 * (P * Q)) x, g.1, g.2, ?_⟩
  rcases (near_fit (h := P * Q) (s := near (2 * (P * Q)) x) (x := x) pq g.1 g.2).mp rfl with h | h
  · have a1 := Int.dvd_sub h1 (Int.dvd_trans d1 h)
    have a2 := Int.dvd_sub h2 (Int.dvd_trans d2 h)
    refine .inl ⟨Int.emod_eq_zero_of_dvd ?_, Int.emod_eq_zero_of_dvd ?_⟩
    · rwa [show x - s - (x - near (2 * (P * Q)) x) = near (2 * (P * Q)) x - s by omega] at a1
    · rwa [show x - -s - (x - near (2 * (P * Q)) x) = near (2 * (P * Q)) x + s by omega] at a2
  · have a1 := Int.dvd_sub (Int.dvd_trans d1 h) h1
    have a2 := Int.dvd_sub (Int.dvd_trans d2 h) h2
    refine .inr ⟨Int.emod_eq_zero_of_dvd ?_, Int.emod_eq_zero_of_dvd ?_⟩
    · rwa [show x + near (2 * (P * Q)) x - (x - -s) = near (2 * (P * Q)) x - s by omega] at a2
    · rwa [show x + near (2 * (P * Q)) x - (x - s) = near (2 * (P * Q)) x + s by omega] at a1
theorem LR.turn {i : Nat} {p : Int × Int} {a b t : Int} (l : LR ps n i p a b) (h0 : 0 ≤ t) (h1 : t ≤ p.1) (ht : TurnOk (pP ps i) (pQ ps i) p.2 t) : ∃ a' b', LR ps n i (p.1, t) a' b' ∧ a' * b' = -(a * b) := by
  have na : pm1 (-a) := by rcases l.pa with z | z <;> rw [z]; exact .inr rfl; exact .inl rfl
  have nb : pm1 (-b) := by rcases l.pb with z | z <;> rw [z]; exact .inr rfl; exact .inl rfl
  rcases ht with ⟨e1, e2⟩ | ⟨e1, e2⟩
  · have d1 := Int.dvd_add (Int.dvd_of_emod_eq_zero e1) l.da
    have d2 := Int.dvd_sub (Int.dvd_of_emod_eq_zero e2) l.db
    refine ⟨a, -b, ⟨l.h, h0, h1, l.pa, nb, ?_, ?_⟩, Int.mul_neg ..⟩
    · rwa [show t - p.2 + (p.2 - a * n) = t - a * n by omega] at d1
    · rwa [show t + p.2 - (p.2 - b * n) = t - -b * n by rw [Int.neg_mul]; omega] at d2
  · have d1 := Int.dvd_add (Int.dvd_of_emod_eq_zero e1) l.db
    have d2 := Int.dvd_sub (Int.dvd_of_emod_eq_zero e2) l.da
    refine ⟨-a, b, ⟨l.h, h0, h1, na, l.pb, ?_, ?_⟩, Int.neg_mul ..⟩
    · rwa [show t + p.2 - (p.2 - a * n) = t - -a * n by rw [Int.neg_mul]; omega] at d2
    · rwa [show t - p.2 + (p.2 - b * n) = t - b * n by omega] at d1
theorem LR.seen (P : Ps ps) {i : Nat} (hi : i < ps.length) : ∃ a, LR ps n i (pP ps i * pQ ps i, near (2 * (pP ps i * pQ ps i)) n) a a ∧ a * a = 1 := by
  obtain ⟨x, y, ne⟩ := P.pq hi
  have p0 := bs_pos _ x
  have q0 := bs_pos _ y
  have pq : 0 < pP ps i * pQ ps i := Int.mul_pos (by omega) (by omega)
  have g := near_rg (h := pP ps i * pQ ps i) (x := n) pq
  have d1 : 2 * pP ps i ∣ 2 * (pP ps i * pQ ps i) := ⟨pQ ps i, by rw [Int.mul_assoc]⟩
  have d2 : 2 * pQ ps i ∣ 2 * (pP ps i * pQ ps i) := ⟨pP ps i, by rw [Int.mul_comm (pP ps i), Int.mul_assoc]⟩
  rcases (near_fit (h := pP ps i * pQ ps i) (s := near (2 * (pP ps i * pQ ps i)) n) (x := n) pq g.1 g.2).mp rfl with h | h
  · have h' : 2 * (pP ps i * pQ ps i) ∣ near (2 * (pP ps i * pQ ps i)) n - 1 * n := by rw [← Int.dvd_neg]; rwa [show -(near (2 * (pP ps i * pQ ps i)) n - 1 * n) = n - near (2 * (pP ps i * pQ ps i)) n by omega]
    exact ⟨1, ⟨rfl, g.1, g.2, .inl rfl, .inl rfl, Int.dvd_trans d1 h', Int.dvd_trans d2 h'⟩, rfl⟩
  · have h' : 2 * (pP ps i * pQ ps i) ∣ near (2 * (pP ps i * pQ ps i)) n - -1 * n := by rwa [show near (2 * (pP ps i * pQ ps i)) n - -1 * n = n + near (2 * (pP ps i * pQ ps i)) n by omega]
    exact ⟨-1, ⟨rfl, g.1, g.2, .inr rfl, .inr rfl, Int.dvd_trans d1 h', Int.dvd_trans d2 h'⟩, rfl⟩
theorem free7_of {c k : Int} (hc : c ∈ ([1, 17, 19, 23, 29, 31, 37, 41, 43] : List Int)) (hk : 0 ≤ k) : Free7 (c + 30030 * k) := by
  refine ⟨by
    simp only [List.mem_cons, List.not_mem_nil, or_false] at hc
    omega, fun p hp hd => ?_⟩
  have h1 : ∀ c ∈ ([1, 17, 19, 23, 29, 31, 37, 41, 43] : List Int), ∀ p ∈ bs7, ¬ p ∣ c := by decide +kernel
  have h2 : ∀ p ∈ bs7, p ∣ 30030 := by decide +kernel
  refine h1 c hc p hp ?_
  have := Int.dvd_sub hd (Int.dvd_trans (h2 p hp) (Int.dvd_mul_right 30030 k))
  rwa [Int.add_sub_cancel] at this
theorem prT_cnt (b : Nat → Bool) : ∀ m, prT (fun j => if b j = true then -1 else 1) m = if ((List.range m).filter b).length % 2 = 0 then 1 else -1
  | 0 => rfl
  | m + 1 => by
    show prT _ m * (if b m = true then -1 else 1) = _
    rw [prT_cnt b m, List.range_succ, List.filter_append, List.length_append]
    cases c : b m with
    | true =>
      have : (List.filter b [m]).length = 1 := by rw [List.filter_cons, c]; rfl
      rw [this, if_pos rfl]
      rcases Nat.mod_two_eq_zero_or_one (List.filter b (List.range m)).length with h | h
      · rw [if_pos h, if_neg (by omega)]; rfl
      · rw [if_neg (by omega), if_pos (by omega)]; rfl
    | false =>
      have : (List.filter b [m]).length = 0 := by rw [List.filter_cons, c]; rfl
      rw [this, Nat.add_zero, show (if (false : Bool) = true then (-1 : Int) else 1) = 1 from rfl, Int.mul_one]
theorem prT_ext {f g : Nat → Int} : ∀ m, (∀ i, i < m → f i = g i) → prT f m = prT g m
  | 0, _ => rfl
  | m + 1, h => by
    show prT f m * f m = prT g m * g m
    rw [prT_ext m fun i hi => h i (by omega), h m (by omega)]
end
end Px
set_option Elab.async false
set_option linter.all false
set_option maxRecDepth 100000
namespace Px
open PySem PySem.Spec PyProof.Rows L2
theorem map_era {α β : Type} (f : α → β) : ∀ (l : List α) (k : Nat), (l.eraseIdx k).map f = (l.map f).eraseIdx k
  | [], _ => rfl
  | _ :: _, 0 => rfl
  | a :: l, k + 1 => by show f a :: (l.eraseIdx k).map f = f a :: (l.map f).eraseIdx k; rw [map_era f l k]
theorem ixN_nat {n k : Nat} (h : k < n) : ixN n (k : Int) = some k := by
  unfold ixN
  rw [if_pos (by omega), if_pos (by omega)]
  congr 1
theorem ixN_last {n : Nat} (h : 0 < n) : ixN n (-1) = some (n - 1) := by
  unfold ixN
  rw [if_neg (by decide), if_pos (by omega)]
  congr 1
  omega
section
variable {w : PWi} {P : PEnds} {ρ : Rho} {M : Mm} {a : Addr} {pa pb : PTE} {t : PTT}
theorem ev_ownV {i : Nat} {d : D} (h : gt ρ i = some (.val d)) : Ev (dOwn i) w ρ M d := fun q hq => by unfold dOwn; rw [h]; exact hq
theorem sqAsg2 {i j : Nat} {x y : D} {r : PTS} (h : Ev pa w ρ M (.tup [x, y])) (k : r w P (st (st ρ i (.val x)) j (.val y)) M) : dSeq (dAsg pa (gTp 2 (gsCons (gNm i) (gsCons (gNm j) gsNil)))) r w P ρ M := h _ ⟨rfl, k⟩
theorem compR_some {gd : PTG} {te : PTE} {q : List D → Mm → Prop} (hb : ∀ (d : D) (kt : D → Mm → Prop) (kf : Mm → Prop), (∃ x, d = .int x) → kt d M → kf M → gd d ρ fun ρ' => t w0 ρ' M fun b M1 => if b = true then te w0 ρ' M1 kt else kf M1) :
    ∀ (l : List Int) (acc : List D), acc.length + l.length ≤ 1000000 → (∀ l', List.Sublist l' l → q (acc ++ l'.map .int) M) → compR gd t te ρ (l.map .int) acc M q
  | [], acc, _, hq => by
    have := hq [] (List.Sublist.refl _)
    rw [List.map_nil, List.append_nil] at this
    exact this
  | x :: l, acc, hl, hq => by
    rw [List.length_cons] at hl
    refine hb _ _ _ ⟨x, rfl⟩ ⟨by omega, ?_⟩ ?_
    · refine compR_some hb l (acc ++ [.int x]) (by rw [List.length_append, List.length_singleton]; omega) fun l' h => ?_
      rw [List.append_assoc]
      exact hq (x :: l') (h.cons₂ x)
    · exact compR_some hb l acc (by omega) fun l' h => hq l' (h.cons x)
end
def sp__law_turned (C : Cl) : PSp := fun ds M q _ => ar2 ds fun x y => ∃ P Q s : Int, (P ∈ bs7 ∧ Q ∈ bs7 ∧ P ≠ Q ∧ 0 ≤ s ∧ s ≤ P * Q) ∧ x = .tup [.int (P * Q), .int s] ∧ y = .lst [.int (2 * P), .int (2 * Q)] ∧ ∀ t, 0 ≤ t → t ≤ P * Q → TurnOk P Q s t → q (.tup [.int (P * Q), .int t]) M
def rd__law_turned (C : Cl) : PTS := (dSeq (dAsg (dVar 0) (gTp 2 (gsCons (gNm 2) (gsCons (gNm 3) gsNil))))
    (dSeq (dFor (iR1 (dOp fAdd (dVar 2) (dC (.int 1)))) (gNm 4) (dSeq (dSet 5 (dOp fAdd (dL (dComp [6] (iA (dVar 1)) (gNm 6) dYes (dOp fEq (dOp fMod (dOp fSub (dVar 4) (dVar 3)) (dVar 6)) (dC (.int 0))))) (dL (dComp [6] (iA (dVar 1)) (gNm 6) dYes (dOp fEq (dOp fMod (dOp fAdd (dVar 4) (dVar 3)) (dVar 6)) (dC (.int 0)))))))
    (dIfS (dOr (dAnd (dTst (dOp fIx (dVar 5) (dC (.int 0)))) (dTst (dOp fIx (dVar 5) (dC (.int 3))))) (dAnd (dTst (dOp fIx (dVar 5) (dC (.int 1)))) (dTst (dOp fIx (dVar 5) (dC (.int 2)))))) (dRet (dTup (dCons (dVar 2) (dCons (dVar 4) dNil)))) dNext)))
    (dRet (dVar 0))))
theorem sh__law_turned (C : Cl) : Shows (sp__law_turned C) 7 (rd__law_turned C) := by
  intro ds M q e h
  obtain ⟨_, _, rfl, P, Q, s, ⟨hP, hQ, ne, s0, s1⟩, rfl, rfl, hq⟩ := ar2_of h
  have p0 := bs_pos _ hP
  have q0 := bs_pos _ hQ
  have pq := bs_lc _ hP _ hQ ne
  have pq0 : 0 ≤ P * Q := Int.mul_nonneg (by omega) (by omega)
  generalize hw : (fun cls fs (x : Rho) M' => ∃ M2, MLe M2 M' ∧ e cls fs M2 : PWi) = w
  refine sqAsg2 (ev_var (i := 0) rfl) ?_
  refine sqStep (forN_ev (n := (P * Q + 1).toNat) ?_ (by omega) ?_)
  · rw [show (((P * Q + 1).toNat : Nat) : Int) = P * Q + 1 by omega]
    exact ev_op (ev_var (i := 2) (d := .int (P * Q)) rfl) ev_c o2_add
  refine forR_ix (fun k ρ M' => M' = M ∧ (∀ t : Int, 0 ≤ t → t < k → ¬ TurnOk P Q s t) ∧ ∃ x4 x5, ρ = [some (.val (.tup [.int (P * Q), .int s])), some (.val (.lst [.int (2 * P), .int (2 * Q)])), some (.val (.int (P * Q))), some (.val (.int s)), x4, x5, none]) _ 0 ?_ ?_ _ _ ⟨rfl, fun t t0 t1 => by omega, none, none, rfl⟩
  · rintro k z hz F hF ρ M' ⟨rfl, hno, x4, x5, rfl⟩
    obtain ⟨hk, rfl⟩ := enum_range hz
    rw [Nat.zero_add] at hno hF
    have cm : ∀ {f : F2} {c : Int}, (∀ r : Int, 0 < r → Op2 f (.int (k : Int)) (.int s) (.int c)) → EvA (dComp [6] (iA (dVar 1)) (gNm 6) dYes (dOp fEq (dOp fMod (dOp f (dVar 4) (dVar 3)) (dVar 6)) (dC (.int 0)))) w [some (.val (.tup [.int (P * Q), .int s])), some (.val (.lst [.int (2 * P), .int (2 * Q)])), some (.val (.int (P * Q))), some (.val (.int s)), some (.val (.int (k : Int))), x5, none] M' [.bl (decide (c % (2 * P) = 0)), .bl (decide (c % (2 * Q) = 0))] := fun {f c} hf κ hκ => by
      have el : ∀ r : Int, 0 < r → Ev (dOp fEq (dOp fMod (dOp f (dVar 4) (dVar 3)) (dVar 6)) (dC (.int 0))) w0 [some (.val (.tup [.int (P * Q), .int s])), some (.val (.lst [.int (2 * P), .int (2 * Q)])), some (.val (.int (P * Q))), some (.val (.int s)), some (.val (.int (k : Int))), x5, some (.val (.int r))] M' (.bl (decide (c % r = 0))) := fun r hr =>
        ev_op (ev_op (ev_op (ev_var (i := 4) rfl) (ev_var (i := 3) rfl) (hf r hr)) (ev_var (i := 6) rfl) (o2_mod hr)) ev_c o2_eqI
      refine ⟨rfl, iA_ev (ev_var (i := 1) rfl) ?_⟩
      refine compR_yes (el (2 * P) (by omega) _ ⟨by show 0 < 1000000; decide, ?_⟩)
      exact compR_yes (el (2 * Q) (by omega) _ ⟨by show 1 < 1000000; decide, hκ⟩)
    have e5 := ev_op (ev_lc (cm (f := fSub) (c := k - s) fun _ _ => o2_sub)) (ev_lc (cm (f := fAdd) (c := k + s) fun _ _ => o2_add)) (o2_cat (by show 4 ≤ 1000000; decide))
    refine sqSet e5 ?_
    have ix : ∀ {i : Nat} {b : Bool}, (([.bl (decide (((k : Int) - s) % (2 * P) = 0)), .bl (decide (((k : Int) - s) % (2 * Q) = 0)), .bl (decide (((k : Int) + s) % (2 * P) = 0)), .bl (decide (((k : Int) + s) % (2 * Q) = 0))] : List D)[i]? = some (.bl b)) → EvT (dTst (dOp fIx (dVar 5) (dC (.int (i : Int))))) w [some (.val (.tup [.int (P * Q), .int s])), some (.val (.lst [.int (2 * P), .int (2 * Q)])), some (.val (.int (P * Q))), some (.val (.int s)), some (.val (.int (k : Int))), some (.val (.lst [.bl (decide (((k : Int) - s) % (2 * P) = 0)), .bl (decide (((k : Int) - s) % (2 * Q) = 0)), .bl (decide (((k : Int) + s) % (2 * P) = 0)), .bl (decide (((k : Int) + s) % (2 * Q) = 0))])), none] M' b := fun h => evt (ev_op (ev_var (i := 5) rfl) ev_c (o2_ixL (atI_nat h)))
    have tt := evt_or (evt_and (ix (i := 0) rfl) (fun _ => ix (i := 3) rfl) rfl) (fun _ => evt_and (ix (i := 1) rfl) (fun _ => ix (i := 2) rfl) rfl) rfl
    refine if_ev tt (fun c => ?_) fun c => ?_
    · refine ret_ev (ev_tup (eva_cons (ev_var (i := 2) rfl) (eva_cons (ev_var (i := 4) rfl) eva_nil)) (by show 2 ≤ 1000000; decide)) ?_
      subst hw
      refine ⟨M', MLe.refl _, hq _ (by omega) (by omega) ?_⟩
      rw [Bool.or_eq_true, Bool.and_eq_true, Bool.and_eq_true] at c
      rcases c with c | c
      · exact .inl ⟨of_decide_eq_true c.1, of_decide_eq_true c.2⟩
      · exact .inr ⟨of_decide_eq_true c.1, of_decide_eq_true c.2⟩
    · refine hF _ _ ⟨rfl, fun t t0 t1 ht => ?_, _, _, rfl⟩
      by_cases z : t < k
      · exact hno t t0 z ht
      · have z : t = k := by omega
        subst z
        rw [Bool.or_eq_false_iff] at c
        rcases ht with ⟨h1, h2⟩ | ⟨h1, h2⟩
        · rw [decide_eq_true h1, decide_eq_true h2] at c; cases c.1
        · rw [decide_eq_true h1, decide_eq_true h2] at c; cases c.2
  · rintro ρ M' ⟨rfl, hno, x4, x5, rfl⟩
    exfalso
    rw [rngD_len, Nat.zero_add] at hno
    obtain ⟨t, t0, t1, ht⟩ := turn_ex hP hQ ne s
    exact hno t t0 (by omega) ht
def sp__law_round_right (C : Cl) : PSp := fun ds M q _ => ar1 ds fun d => asDraw d M (q (.bl true) M)
def rd_rr_0 (C : Cl) : PTS := (dPar2LI 1 2 [2, 3, 5, 7, 11, 13])
def rd_rr_1 (C : Cl) : PTS := (dFor (iR1 (dOp fAdd (dC (.int 3)) (dCall sp_take [] (dCons (dVar 0) (dCons (dC (.int 4)) dNil))))) (gNm 3) (dAppPop 1 2 (dCall sp_take [] (dCons (dVar 0) (dCons (dB1 fLen (dOwn 2)) dNil)))))
def rd_rr_2 (C : Cl) : PTS := (dSet 4 (dOp fAdd (dCall sp_pick [] (dCons (dVar 0) (dCons (dL (dLst (dCons (dC (.int 1)) (dCons (dC (.int 17)) (dCons (dC (.int 19)) (dCons (dC (.int 23)) (dCons (dC (.int 29)) (dCons (dC (.int 31)) (dCons (dC (.int 37)) (dCons (dC (.int 41)) (dCons (dC (.int 43)) dNil))))))))))) dNil))) (dOp fMul (dC (.int 30030)) (dCall sp_take [] (dCons (dVar 0) (dCons (dC (.int 10)) dNil))))))
def rd_rr_3 (C : Cl) : PTS := (dParF2 5 6 (dB1 fLen (dOwn 1)))
def rd_rr_4 (C : Cl) : PTS := (dFor (iR1 (dVar 6)) (gNm 7) (dSeq (dSet 8 (dOp fMul (dOp fIx (dOwn 1) (dVar 7)) (dOp fIx (dOwn 1) (dOp fSub (dVar 7) (dC (.int 1)))))) (dApp 5 (dTup (dCons (dVar 8) (dCons (dOp fIx (dCall (sp__law_seen C) [] (dCons (dVar 8) (dCons (dTup (dCons (dVar 4) (dCons (dC (.int 1)) dNil))) dNil))) (dC (.int 0))) dNil))))))
def rd_rr_5 (C : Cl) : PTS := (dSet 9 (dL (dComp [7] (iR1 (dVar 6)) (gNm 7) (dTst (dOp fEq (dCall sp_take [] (dCons (dVar 0) (dCons (dC (.int 2)) dNil))) (dC (.int 0)))) (dVar 7))))
def rd_rr_6 (C : Cl) : PTS := (dFor (iA (dVar 9)) (gNm 7) (dSetA 5 (dCall (sp__law_turned C) [] (dCons (dOp fIx (dOwn 5) (dVar 7)) (dCons (dL (dLst (dCons (dOp fMul (dC (.int 2)) (dOp fIx (dOwn 1) (dVar 7))) (dCons (dOp fMul (dC (.int 2)) (dOp fIx (dOwn 1) (dOp fSub (dVar 7) (dC (.int 1))))) dNil)))) dNil))) (dVar 7)))
def rd_rr_7 (C : Cl) : PTS := (dFrz 5 (dSetNw 10 (nCall (spN_ring C) (dCons (dVar 5) dNil))))
def rd_rr_8 (C : Cl) : PTS := (dIfS (dTst (dOp fEq (dOp fMod (dB1 fLen (dVar 9)) (dC (.int 2))) (dC (.int 0)))) (dFrz 5 (dRet (dAndV (dOp fIs (dOwn 10) (dC .non)) (dOp fEq (dCall (sp_fitting C) [] (dCons (dVar 5) dNil)) (dC (.int 1)))))) dNext)
def rd_rr_9 (C : Cl) : PTS := (dFrz 5 (dIfS (dOr (dTst (dOp fIs (dOwn 10) (dC .non))) (dOr (dTst (dOp fNe (dL (dG1 fSortI (dOwn 10))) (dL (dLRg1 (dVar 6))))) (dTst (dOp fNe (dCall (sp_fitting C) [] (dCons (dVar 5) dNil)) (dC (.int 0)))))) (dRet (dC (.bl false))) dNext))
def rd_rr_10 (C : Cl) : PTS := (dRet (dAndV (dCallP (sp__law_is_ring C) (dCons (dOwn 5) (dCons (dOwn 10) dNil))) (dOp (fIsBl false) (dCallP (sp_is_ringX C) (dCons (dOwn 5) (dCons (dOwn 10) dNil))) (dC (.bl true)))))
def rd__law_round_right (C : Cl) : PTS := (dSeq (rd_rr_0 C) (dSeq (rd_rr_1 C) (dSeq (rd_rr_2 C) (dSeq (rd_rr_3 C) (dSeq (rd_rr_4 C) (dSeq (rd_rr_5 C) (dSeq (rd_rr_6 C) (dSeq (rd_rr_7 C) (dSeq (rd_rr_8 C) (dSeq (rd_rr_9 C) (rd_rr_10 C)))))))))))
section
variable {C : Cl} {w : PWi} {P : PEnds} {ρ : Rho} {M : Mm} {a : Addr} {x1 x2 x3 x4 x5 x6 x7 x8 x9 x10 : Option Sv} {ps lf : List Int} {n : Int}
abbrev ρrr (a : Addr) (x1 x2 x3 x4 x5 x6 x7 x8 x9 x10 : Option Sv) : Rho := [some (.val (.raw (.ref a))), x1, x2, x3, x4, x5, x6, x7, x8, x9, x10]
structure Bag (ps lf : List Int) : Prop where
  n1 : ps.Nodup
  n2 : lf.Nodup
  dj : ∀ x ∈ ps, x ∉ lf
  b1 : ∀ x ∈ ps, x ∈ bs7
  b2 : ∀ x ∈ lf, x ∈ bs7
  ln : ps.length + lf.length = 6
theorem Bag.pop (B : Bag ps lf) {k : Nat} {y : Int} (hk : lf[k]? = some y) : Bag (ps ++ [y]) (lf.eraseIdx k) := by
  obtain ⟨hl, ey⟩ := List.getElem?_eq_some_iff.mp hk
  have hy : y ∈ lf := by rw [← ey]; exact List.getElem_mem hl
  refine ⟨?_, List.Sublist.nodup (List.eraseIdx_sublist _ _) B.n2, ?_, ?_, fun x hx => B.b2 x (List.mem_of_mem_eraseIdx hx), ?_⟩
  · refine List.nodup_append.mpr ⟨B.n1, by simp, fun x hx z hz exz => ?_⟩
    rw [List.mem_singleton] at hz
    rw [exz, hz] at hx
    exact B.dj _ hx hy
  · intro x hx hx2
    rcases List.mem_append.mp hx with hx | hx
    · exact B.dj x hx (List.mem_of_mem_eraseIdx hx2)
    · rw [List.mem_singleton] at hx
      rw [hx] at hx2
      obtain ⟨i, hi, ne, e2⟩ := List.mem_eraseIdx_iff_getElem.mp hx2
      have pw := List.pairwise_iff_getElem.mp B.n2
      rcases Nat.lt_or_gt_of_ne ne with h | h
      · exact pw i k hi hl h (by rw [e2, ey])
      · exact pw k i hl hi h (by rw [e2, ey])
  · intro x hx
    rcases List.mem_append.mp hx with hx | hx
    · exact B.b1 x hx
    · rw [List.mem_singleton] at hx
      rw [hx]
      exact B.b2 _ hy
  · rw [List.length_append, List.length_singleton, List.length_eraseIdx_of_lt hl]
    have := B.ln
    omega
theorem rr_1 (hm : M a = some .draw) (hN : ∀ ps y2 y3, Ps ps → P.nx (ρrr a (some (.own (ps.map .int))) y2 y3 x4 x5 x6 x7 x8 x9 x10) M) : rd_rr_1 C w P (ρrr a (some (.own [])) (some (.own (bs7.map .int))) x3 x4 x5 x6 x7 x8 x9 x10) M := by
  have ge : EvG (dOp fAdd (dC (.int 3)) (dCall sp_take [] (dCons (dVar 0) (dCons (dC (.int 4)) dNil)))) w (ρrr a (some (.own [])) (some (.own (bs7.map .int))) x3 x4 x5 x6 x7 x8 x9 x10) M (fun z => ∃ k : Int, z = .int k ∧ 3 ≤ k ∧ k ≤ 6) :=
    evg_opR ev_c (evg_take (a := a) (n := 4) (ev_var (i := 0) rfl) ev_c hm (tk_of (by decide) (by decide))) fun y hy => by
      obtain ⟨k, rfl, k0, k1⟩ := hy
      exact ⟨_, o2_add, _, rfl, by omega, by omega⟩
  refine forR1_evg ge ?_
  rintro _ ⟨t, rfl, t0, t1⟩
  refine ⟨t, rfl, ⟨by omega, by omega⟩, ?_⟩
  refine forR_ix (fun k ρ M' => M' = M ∧ ∃ (ps lf : List Int) (y3 : Option Sv), Bag ps lf ∧ ps.length = k ∧ ρ = ρrr a (some (.own (ps.map .int))) (some (.own (lf.map .int))) y3 x4 x5 x6 x7 x8 x9 x10) _ 0 ?_ ?_ _ _ ⟨rfl, [], bs7, x3, ⟨by decide, by decide, by simp, by simp, fun x h => h, rfl⟩, rfl, rfl⟩
  · rintro k z hz F hF ρ M' ⟨rfl, ps, lf, y3, B, hl, rfl⟩
    obtain ⟨hk, rfl⟩ := enum_range hz
    have hln := B.ln
    have h6 : 0 < lf.length := by omega
    refine ⟨trivial, trivial, ?_⟩
    refine evg_take (a := a) (n := ((lf.map D.int).length : Nat)) (w := w) (M := M') (ρ := ρrr a (some (.own (ps.map .int))) (some (.own (lf.map .int))) (some (.val (.int (k : Int)))) x4 x5 x6 x7 x8 x9 x10) (ev_var (i := 0) rfl) (ev_b1 (ev_own (i := 2) rfl) o1_lenL) hm (tk_of (by rw [List.length_map]; omega) (by rw [List.length_map]; omega)) _ fun z hz => ?_
    obtain ⟨j, rfl, j0, j1⟩ := hz
    rw [List.length_map] at j1
    obtain ⟨y, hy⟩ : ∃ y, lf[j.toNat]? = some y := ⟨_, List.getElem?_eq_getElem (by omega)⟩
    have ej : ((j.toNat : Nat) : Int) = j := by omega
    refine ⟨j, lf.map .int, j.toNat, .int y, rfl, rfl, by rw [List.length_map]; omega, by rw [← ej]; exact ixN_nat (by rw [List.length_map]; omega), by rw [List.getElem?_map, hy]; rfl, ?_⟩
    refine ⟨by rw [List.length_map]; omega, ?_⟩
    refine hF _ _ ⟨rfl, ps ++ [y], lf.eraseIdx j.toNat, some (.val (.int (k : Int))), B.pop hy, by rw [List.length_append, List.length_singleton]; omega, ?_⟩
    rw [List.map_append, map_era]
    rfl
  · rintro ρ M' ⟨rfl, ps, lf, y3, B, hl, rfl⟩
    rw [rngD_len, Nat.zero_add] at hl
    exact hN ps _ _ ⟨B.n1, B.b1, by omega⟩
theorem rr_2 (hm : M a = some .draw) (hN : ∀ n, Free7 n → n ≤ 10 ^ 6 → P.nx (ρrr a x1 x2 x3 (some (.val (.int n))) x5 x6 x7 x8 x9 x10) M) : rd_rr_2 C w P (ρrr a x1 x2 x3 x4 x5 x6 x7 x8 x9 x10) M := by
  have g1 : EvG (dCall sp_pick [] (dCons (dVar 0) (dCons (dL (dLst (dCons (dC (.int 1)) (dCons (dC (.int 17)) (dCons (dC (.int 19)) (dCons (dC (.int 23)) (dCons (dC (.int 29)) (dCons (dC (.int 31)) (dCons (dC (.int 37)) (dCons (dC (.int 41)) (dCons (dC (.int 43)) dNil))))))))))) dNil))) w (ρrr a x1 x2 x3 x4 x5 x6 x7 x8 x9 x10) M (fun z => z ∈ ([1, 17, 19, 23, 29, 31, 37, 41, 43] : List Int).map D.int) :=
    evg_pick (a := a) (ev_var (i := 0) rfl) (ev_lst (eva_cons ev_c (eva_cons ev_c (eva_cons ev_c (eva_cons ev_c (eva_cons ev_c (eva_cons ev_c (eva_cons ev_c (eva_cons ev_c (eva_cons ev_c eva_nil))))))))) (by show 9 ≤ 1000000; decide)) hm (by show 0 < 9 ∧ 9 ≤ 100000; decide)
  have g2 := evg_opR (f := fMul) (w := w) (M := M) (ρ := ρrr a x1 x2 x3 x4 x5 x6 x7 x8 x9 x10) (H := fun z => ∃ k : Int, z = .int (30030 * k) ∧ 0 ≤ k ∧ k < 10) (ev_c (d := .int 30030)) (evg_take (a := a) (n := 10) (ev_var (i := 0) rfl) ev_c hm (tk_of (by decide) (by decide))) fun y hy => by
    obtain ⟨k, rfl, k0, k1⟩ := hy
    exact ⟨_, o2_mul (mul_small (by decide) (by decide) (by omega) (by omega)), k, rfl, k0, k1⟩
  refine g1 _ fun c hc => g2 _ fun z hz => ?_
  obtain ⟨c, hc2, rfl⟩ := List.mem_map.mp hc
  obtain ⟨k, rfl, k0, k1⟩ := hz
  refine hN _ (free7_of hc2 k0) ?_
  simp only [List.mem_cons, List.not_mem_nil, or_false] at hc2
  omega
def lkN (ps : List Int) (n : Int) (i : Nat) : Int × Int := (pP ps i * pQ ps i, near (2 * (pP ps i * pQ ps i)) n)
theorem ev_pP {r : Rho} {pi : PTE} {i : Nat} (hr : gt r 1 = some (.own (ps.map .int))) (hi : i < ps.length) (h : Ev pi w r M (.int (i : Int))) : Ev (dOp fIx (dOwn 1) pi) w r M (.int (pP ps i)) := ev_op (ev_own hr) h (o2_ixL (atI_get hi))
theorem ev_pQ {r : Rho} {pi : PTE} {i : Nat} (hr : gt r 1 = some (.own (ps.map .int))) (hi : i < ps.length) (h : Ev pi w r M (.int (i : Int))) : Ev (dOp fIx (dOwn 1) (dOp fSub pi (dC (.int 1)))) w r M (.int (pQ ps i)) := by
  refine ev_op (ev_own hr) (ev_op h ev_c o2_sub) (o2_ixL ?_)
  unfold pQ
  by_cases c : i = 0
  · subst c
    rw [if_pos rfl]
    show (ixN _ (-1)).bind _ = _
    rw [List.length_map, ixN_last hi]
    show (ps.map D.int)[ps.length - 1]? = _
    rw [List.getElem?_map, List.getElem?_eq_getElem (by omega), List.getD_eq_getElem?_getD, List.getElem?_eq_getElem (by omega)]
    rfl
  · rw [if_neg c, show (i : Int) - 1 = ((i - 1 : Nat) : Int) by omega]
    exact atI_get (by omega)
theorem rr_4 (hp : Ps ps) (f : Free7 n) (hn : n ≤ 10 ^ 6) {o7 : Option D} (hN : ∀ (o7 : Option D) y8, P.nx (ρrr a (some (.own (ps.map .int))) x2 x3 (some (.val (.int n))) (some (.own (((List.range ps.length).map (lkN ps n)).map lkD))) (some (.val (.int (ps.length : Nat)))) (nv o7) y8 x9 x10) M) :
    rd_rr_4 C w P (ρrr a (some (.own (ps.map .int))) x2 x3 (some (.val (.int n))) (some (.own [])) (some (.val (.int (ps.length : Nat)))) (nv o7) x8 x9 x10) M := by
  have m6 := hp.len
  refine forN_ev (ev_var (i := 6) rfl) (by omega) ?_
  refine forR_ix (fun k ρ M' => M' = M ∧ ∃ (y7 : Option D) (y8 : Option Sv), ρ = ρrr a (some (.own (ps.map .int))) x2 x3 (some (.val (.int n))) (some (.own (((List.range k).map (lkN ps n)).map lkD))) (some (.val (.int (ps.length : Nat)))) (nv y7) y8 x9 x10) _ 0 ?_ ?_ _ _ ⟨rfl, o7, x8, rfl⟩
  · rintro k z hz F hF ρ M' ⟨rfl, y7, y8, rfl⟩
    obtain ⟨hk, rfl⟩ := enum_range hz
    rw [Nat.zero_add] at hF ⊢
    obtain ⟨hx, hy, ne⟩ := hp.pq hk
    have p0 := bs_pos _ hx
    have q0 := bs_pos _ hy
    have pq := bs_lc _ hx _ hy ne
    have pq0 : 0 < pP ps k * pQ ps k := Int.mul_pos (by omega) (by omega)
    have e8 : Ev (dOp fMul (dOp fIx (dOwn 1) (dVar 7)) (dOp fIx (dOwn 1) (dOp fSub (dVar 7) (dC (.int 1))))) w (ρrr a (some (.own (ps.map .int))) x2 x3 (some (.val (.int n))) (some (.own (((List.range k).map (lkN ps n)).map lkD))) (some (.val (.int (ps.length : Nat)))) (some (.val (.int (k : Int)))) y8 x9 x10) M' (.int (pP ps k * pQ ps k)) :=
      ev_op (ev_pP rfl hk (ev_var (i := 7) rfl)) (ev_pQ rfl hk (ev_var (i := 7) rfl)) (o2_mul (mul_small (by omega) (by omega) (by omega) (by omega)))
    refine sqSet e8 ?_
    have es := ev_op (ev_seen9 (C := C) (w := w) (M := M') (ρ := ρrr a (some (.own (ps.map .int))) x2 x3 (some (.val (.int n))) (some (.own (((List.range k).map (lkN ps n)).map lkD))) (some (.val (.int (ps.length : Nat)))) (some (.val (.int (k : Int)))) (some (.val (.int (pP ps k * pQ ps k)))) x9 x10) (h := pP ps k * pQ ps k) (n := n) (by omega) pq f.1 (by omega) (ev_var (i := 8) rfl) (ev_var (i := 4) rfl)) (ev_c (d := .int 0)) (o2_ixT atI_01.1)
    refine app_ev rfl (by rw [List.length_map, List.length_map, List.length_range]; omega) (ev_tup (eva_cons (ev_var (i := 8) rfl) (eva_cons es eva_nil)) (by show 2 ≤ 1000000; decide)) ?_
    refine hF _ _ ⟨rfl, some (.int (k : Int)), some (.val (.int (pP ps k * pQ ps k))), ?_⟩
    rw [List.range_succ, List.map_append, List.map_append]
    rfl
  · rintro ρ M' ⟨rfl, y7, y8, rfl⟩
    rw [rngD_len, Nat.zero_add]
    exact hN _ _
theorem rr_5 (hm : M a = some .draw) {m : Nat} (h6 : m ≤ 6) {o7 : Option D} (hN : ∀ pl : List Int, List.Sublist pl (zxs m) → P.nx (ρrr a x1 x2 x3 x4 x5 (some (.val (.int (m : Nat)))) (nv o7) x8 (some (.val (.lst (pl.map .int)))) x10) M) : rd_rr_5 C w P (ρrr a x1 x2 x3 x4 x5 (some (.val (.int (m : Nat)))) (nv o7) x8 x9 x10) M := by
  have gc : EvGA (dComp [7] (iR1 (dVar 6)) (gNm 7) (dTst (dOp fEq (dCall sp_take [] (dCons (dVar 0) (dCons (dC (.int 2)) dNil))) (dC (.int 0)))) (dVar 7)) w (ρrr a x1 x2 x3 x4 x5 (some (.val (.int (m : Nat)))) (nv o7) x8 x9 x10) M (fun l => ∃ pl, List.Sublist pl (zxs m) ∧ l = pl.map .int) := fun κ hκ => by
    refine ⟨by cases o7 <;> rfl, ?_⟩
    refine ev_var (i := 6) (d := .int (m : Nat)) rfl _ ⟨by omega, by omega, ?_⟩
    rw [show ((m : Nat) : Int).toNat = m by omega, rngZ]
    refine compR_some (fun d kt kf hd h1 h2 => ?_) _ [] (by rw [zxs_len]; show 0 + m ≤ 1000000; omega) fun l' h => hκ _ ⟨l', h, rfl⟩
    obtain ⟨x, rfl⟩ := hd
    have key : EvG (dOp fEq (dCall sp_take [] (dCons (dVar 0) (dCons (dC (.int 2)) dNil))) (dC (.int 0))) w0 (ρrr a x1 x2 x3 x4 x5 (some (.val (.int (m : Nat)))) (some (.val (.int x))) x8 x9 x10) M (fun z => ∃ b, z = .bl b) :=
      evg_op (evg_take (a := a) (n := 2) (ev_var (i := 0) rfl) ev_c hm (tk_of (by decide) (by decide))) (fun _ _ => ev_c) fun x ⟨k, e, _⟩ => ⟨.bl (decide (k = 0)), by subst e; exact o2_eqI, _, rfl⟩
    refine key _ fun z ⟨b, e⟩ => ?_
    subst e
    show if b = true then _ else _
    cases b with
    | true => exact itT rfl h1
    | false => exact itF rfl h2
  refine set_evg (evg_lc gc) ?_
  rintro _ ⟨_, rfl, pl, h, rfl⟩
  exact hN pl h
def Tn (ps : List Int) (n : Int) (dn : List Int) (ls : List (Int × Int)) : Prop := ls.length = ps.length ∧ ∀ i (hi : i < ls.length), ∃ x y, LR ps n i ls[i] x y ∧ x * y = if decide ((i : Int) ∈ dn) = true then -1 else 1
theorem tn_0 (hp : Ps ps) : Tn ps n [] ((List.range ps.length).map (lkN ps n)) := by
  refine ⟨by rw [List.length_map, List.length_range], fun i hi => ?_⟩
  rw [List.length_map, List.length_range] at hi
  obtain ⟨x, l, e⟩ := LR.seen (n := n) hp hi
  refine ⟨x, x, ?_, by rw [e]; rfl⟩
  rw [List.getElem_map, List.getElem_range]
  exact l
theorem Tn.turn {dn : List Int} {ls : List (Int × Int)} {k : Nat} {t : Int} (T : Tn ps n dn ls) (hk : k < ls.length) (hd : (k : Int) ∉ dn) (t0 : 0 ≤ t) (t1 : t ≤ ls[k].1) (ht : TurnOk (pP ps k) (pQ ps k) ls[k].2 t) : Tn ps n (dn ++ [(k : Int)]) (ls.set k (ls[k].1, t)) := by
  refine ⟨by rw [List.length_set]; exact T.1, fun i hi => ?_⟩
  rw [List.length_set] at hi
  by_cases c : i = k
  · subst c
    obtain ⟨x, y, l, e⟩ := T.2 i hk
    obtain ⟨x', y', l', e'⟩ := l.turn t0 t1 ht
    refine ⟨x', y', ?_, ?_⟩
    · rw [List.getElem_set_self]; exact l'
    · rw [e', e, decide_eq_false hd, decide_eq_true (by simp)]; rfl
  · obtain ⟨x, y, l, e⟩ := T.2 i hi
    refine ⟨x, y, ?_, ?_⟩
    · rw [List.getElem_set_ne (fun z => c z.symm)]; exact l
    · rw [e]
      have : ((i : Int) ∈ dn ++ [(k : Int)]) ↔ (i : Int) ∈ dn := by
        rw [List.mem_append, List.mem_singleton]
        constructor
        · rintro (h | h)
          · exact h
          · omega
        · exact .inl
      rw [decide_eq_decide.mpr this]
theorem rr_6 (hp : Ps ps) {pl : List Int} {ls0 : List (Int × Int)} (hs : List.Sublist pl (zxs ps.length)) (T0 : Tn ps n [] ls0) (hN : ∀ ls y7, Tn ps n pl ls → P.nx (ρrr a (some (.own (ps.map .int))) x2 x3 x4 (some (.own (ls.map lkD))) x6 y7 x8 (some (.val (.lst (pl.map .int)))) x10) M) :
    rd_rr_6 C w P (ρrr a (some (.own (ps.map .int))) x2 x3 x4 (some (.own (ls0.map lkD))) x6 x7 x8 (some (.val (.lst (pl.map .int)))) x10) M := by
  have m6 := hp.len
  have nd : pl.Nodup := hs.nodup (zxs_nodup _)
  refine forL9_ev (ev_var (i := 9) rfl) ?_
  refine forR_ind (fun rem ρ M' => M' = M ∧ ∃ (dn rm : List Int) (ls : List (Int × Int)) (y7 : Option Sv), rem = rm.map .int ∧ pl = dn ++ rm ∧ Tn ps n dn ls ∧ ρ = ρrr a (some (.own (ps.map .int))) x2 x3 x4 (some (.own (ls.map lkD))) x6 y7 x8 (some (.val (.lst (pl.map .int)))) x10) ?_ ?_ _ _ _ ⟨rfl, [], pl, ls0, x7, rfl, rfl, T0, rfl⟩
  · rintro d rem ρ M' ⟨rfl, dn, rm, ls, y7, er, ep, T, rfl⟩ F hF
    match rm, er, ep with
    | z :: rm, er, ep =>
      have er : d :: rem = .int z :: rm.map .int := er
      cases er
      have hz : z ∈ zxs ps.length := hs.subset (by rw [ep]; simp)
      have hz2 := zxs_mem.mp hz
      obtain ⟨k, rfl⟩ : ∃ k : Nat, z = k := ⟨z.toNat, by omega⟩
      have hk : k < ls.length := by rw [T.1]; omega
      have hkp : k < ps.length := by omega
      have hd : (k : Int) ∉ dn := fun c => by
        rw [ep] at nd
        exact (List.nodup_append.mp nd).2.2 _ c _ List.mem_cons_self rfl
      obtain ⟨x, y, l, e⟩ := T.2 k hk
      obtain ⟨hx, hy, ne⟩ := hp.pq hkp
      have p0 := bs_pos _ hx
      have q0 := bs_pos _ hy
      refine ⟨trivial, ?_⟩
      have e1 : Ev (dOp fIx (dOwn 5) (dVar 7)) w (ρrr a (some (.own (ps.map .int))) x2 x3 x4 (some (.own (ls.map lkD))) x6 (some (.val (.int (k : Int)))) x8 (some (.val (.lst (pl.map .int)))) x10) M' (.tup [.int (pP ps k * pQ ps k), .int ls[k].2]) := by
        refine ev_op (ev_own (i := 5) rfl) (ev_var (i := 7) rfl) (o2_ixL (atI_nat ?_))
        rw [List.getElem?_map, List.getElem?_eq_getElem hk, ← l.h]
        rfl
      have e2 := ev_lst (eva_cons (ev_op (ev_c (d := .int 2)) (ev_pP (w := w) (M := M') (r := ρrr a (some (.own (ps.map .int))) x2 x3 x4 (some (.own (ls.map lkD))) x6 (some (.val (.int (k : Int)))) x8 (some (.val (.lst (pl.map .int)))) x10) rfl hkp (ev_var (i := 7) rfl)) (o2_mul (mul_small (by decide) (by decide) (by omega) (by omega)))) (eva_cons (ev_op (ev_c (d := .int 2)) (ev_pQ rfl hkp (ev_var (i := 7) rfl)) (o2_mul (mul_small (by decide) (by decide) (by omega) (by omega)))) eva_nil)) (by show 2 ≤ 1000000; decide)
      refine (eva_cons e1 (eva_cons e2 eva_nil)) _ ⟨_, _, _, ⟨hx, hy, ne, l.s0, by rw [← l.h]; exact l.s1⟩, rfl, rfl, fun t t0 t1 ht => ?_⟩
      refine ev_var (i := 7) (d := .int (k : Int)) rfl _ ?_
      refine ⟨by rw [List.length_map, T.1]; omega, (ls.set k (ls[k].1, t)).map lkD, ?_, ?_⟩
      · show (ixN _ (k : Int)).map _ = _
        rw [List.length_map, ixN_nat hk]
        show some _ = some _
        rw [List.map_set, ← l.h]
        rfl
      · exact hF _ _ ⟨rfl, dn ++ [(k : Int)], rm, _, _, rfl, by rw [ep, List.append_assoc]; rfl, T.turn hk hd t0 (by rw [l.h]; exact t1) ht, rfl⟩
  · rintro ρ M' ⟨rfl, dn, rm, ls, y7, er, ep, T, rfl⟩
    match rm, er with
    | [], _ =>
      rw [List.append_nil] at ep
      subst ep
      exact hN ls y7 T
theorem Tn.rnd {pl : List Int} {ls : List (Int × Int)} (hp : Ps ps) (f : Free7 n) (hs : List.Sublist pl (zxs ps.length)) (T : Tn ps n pl ls) : ∃ α β, Rnd ls α β ∧ LkOk ls ∧ prT (fun j => α j * β j) ls.length = if pl.length % 2 = 0 then 1 else -1 := by
  have ch : ∀ i, ∃ xy : Int × Int, pm1 xy.1 ∧ pm1 xy.2 ∧ ∀ (hi : i < ls.length), LR ps n i ls[i] xy.1 xy.2 ∧ xy.1 * xy.2 = if decide ((i : Int) ∈ pl) = true then -1 else 1 := fun i => by
    by_cases hi : i < ls.length
    · obtain ⟨x, y, l, e⟩ := T.2 i hi
      exact ⟨(x, y), l.pa, l.pb, fun _ => ⟨l, e⟩⟩
    · exact ⟨(1, 1), .inl rfl, .inl rfl, fun h => absurd h hi⟩
  obtain ⟨g, hg⟩ := Classical.axiomOfChoice ch
  obtain ⟨R, K⟩ := rnd_of (α := fun i => (g i).1) (β := fun i => (g i).2) hp f T.1 (fun i => (hg i).1) (fun i => (hg i).2.1) fun i hi => ((hg i).2.2 hi).1
  refine ⟨_, _, R, K, ?_⟩
  rw [prT_ext (g := fun j : Nat => if decide ((j : Int) ∈ pl) = true then -1 else 1) ls.length fun i hi => ((hg i).2.2 hi).2, prT_cnt, T.1]
  have srt : (zxs ps.length).Pairwise (· < ·) := by
    unfold zxs
    rw [List.pairwise_map]
    exact List.pairwise_lt_range.imp fun h => by omega
  have e : ((List.range ps.length).filter fun j : Nat => decide ((j : Int) ∈ pl)).map (fun j : Nat => (j : Int)) = pl := by
    refine srt_uniq ?_ (srt.sublist hs) fun k => ?_
    · rw [List.pairwise_map]
      exact (List.pairwise_lt_range.sublist List.filter_sublist).imp fun h => by omega
    · rw [List.mem_map]
      constructor
      · rintro ⟨j, hj, rfl⟩
        exact of_decide_eq_true (List.mem_filter.mp hj).2
      · intro hk
        have := zxs_mem.mp (hs.subset hk)
        refine ⟨k.toNat, List.mem_filter.mpr ⟨List.mem_range.mpr (by omega), ?_⟩, by omega⟩
        rw [show ((k.toNat : Nat) : Int) = k by omega]
        exact decide_eq_true hk
  have : ((List.range ps.length).filter fun j : Nat => decide ((j : Int) ∈ pl)).length = pl.length := by
    rw [← e, List.length_map, e]
  rw [this]
end
end Px
set_option Elab.async false
set_option linter.all false
set_option maxRecDepth 100000
namespace Px
open PySem PySem.Spec PyProof.Rows L2
def rd_l07_0 (C : Cl) : PTS := (dIfS (dNot (dTst (dCall (sp__law_round_right C) [] (dCons (dVar 1) dNil)))) (dRet (dC (.bl false))) dNext)
def rd_l07_1 (C : Cl) : PTS := (dSet 3 (dCall (sp__law_sights C) [] (dCons (dVar 1) (dCons (dC (.int 400)) dNil))))
def rd_l07_2 (C : Cl) : PTS := (dSet 4 (dCall (sp__law_lcm C) [] (dCons (dL (dComp [8, 9] (iA (dVar 3)) (gTp 2 (gsCons (gNm 8) (gsCons (gNm 9) gsNil))) dYes (dVar 8))) dNil)))
def rd_l07_3 (C : Cl) : PTS := (dSet 5 (dL (dComp [10] (iR1 (dOp fAdd (dVar 4) (dC (.int 1)))) (gNm 10) (dTst (dCall (sp__law_fit C) [] (dCons (dVar 3) (dCons (dVar 10) dNil)))) (dVar 10))))
def rd_l07_4 (C : Cl) : PTS := (dSetNw 6 (nCall (spN_ring C) (dCons (dVar 3) dNil)))
def rd_l07_5 (C : Cl) : PTS := (dIfS (dTst (dOp fNe (dOp fIs (dOwn 6) (dC .non)) (dOp fNe (dVar 5) (dL (dLst dNil))))) (dRet (dC (.bl false))) dNext)
def rd_l07_6 (C : Cl) : PTS := (dIfS (dTst (dOp fIs (dOwn 6) (dC .non))) dCnt dNext)
def rd_l07_7 (C : Cl) : PTS := (dIfS (dOr (dNot (dTst (dB1 (fIsi "list") (dOwn 6)))) (dOr (dNot (dTst (dCallP (sp__law_is_ring C) (dCons (dVar 3) (dCons (dOwn 6) dNil))))) (dTst (dOp (fIsBl true) (dCallP (sp_is_ringX C) (dCons (dVar 3) (dCons (dOwn 6) dNil))) (dC (.bl true)))))) (dRet (dC (.bl false))) dNext)
def rd_l07_8 (C : Cl) : PTS := (dSet 7 (dL (dG1 fListC (dOwn 6))))
def rd_l07_9 (C : Cl) : PTS := (dApp 6 (dC .non))
def rd_l07_10 (C : Cl) : PTS := (dIfS (dTst (dOp fNe (dOfN (nCallK (spN_ring C) [0] (dCons (dB1 fTup (dVar 3)) dNil))) (dVar 7))) (dRet (dC (.bl false))) dNext)
def rd_l07_b (C : Cl) : PTS := (dSeq (rd_l07_0 C) (dSeq (rd_l07_1 C) (dSeq (rd_l07_2 C) (dSeq (rd_l07_3 C) (dSeq (rd_l07_4 C) (dSeq (rd_l07_5 C) (dSeq (rd_l07_6 C) (dSeq (rd_l07_7 C) (dSeq (rd_l07_8 C) (dSeq (rd_l07_9 C) (rd_l07_10 C)))))))))))
def rd_law (C : Cl) : PTS := (dSeq (dSet 1 (dCall sp_begin [] (dCons (dVar 0) dNil))) (dSeq (dFor (iR1 (dOp fAdd (dC (.int 4)) (dOp fMin2 (dB1 fLen (dVar 0)) (dC (.int 16))))) (gNm 2) (rd_l07_b C)) (dRet (dC (.bl true)))))
def fmZ (p : Int → Bool) : D → Option D
  | .int x => if p x = true then some (.int x) else none
  | _ => none
theorem fm_intZ (p : Int → Bool) : ∀ l : List Int, (l.map D.int).filterMap (fmZ p) = (l.filter p).map .int
  | [] => rfl
  | x :: l => by
    rw [List.map_cons, List.filterMap_cons, List.filter_cons, fm_intZ p l]
    have e : fmZ p (D.int x) = if p x = true then some (.int x) else none := rfl
    rw [e]
    by_cases z : p x = true
    · simp [z]
    · simp [z]
theorem listc_ev {w : PWi} {ρ : Rho} {M : Mm} {pa : PTE} {l : List D} (h : Ev pa w ρ M (.lst l)) : Ev (dL (dG1 fListC pa)) w ρ M (.lst l) := fun q hq => h _ hq
theorem ringD_none {ls : List (Int × Int)} (h : isN (ringD ls) = true) : ringD ls = .non := by
  rcases ringD_cases ls with e | ⟨r, e⟩
  · exact e
  · rw [e] at h; cases h
theorem zxs_srt (n : Nat) : (zxs n).Pairwise (· < ·) := by
  unfold zxs
  rw [List.pairwise_map]
  exact List.pairwise_lt_range.imp fun h => by omega
theorem fits_ring {ls : List (Int × Int)} (h : LkOk ls) : ((zxs (roofL ls + 1).toNat).filter (fitZ ls)).isEmpty = !isN (ringD ls) := by
  have e := fitN_is h
  cases c : isN (ringD ls) with
  | false =>
    unfold fitN at e
    rw [c, if_neg (by decide)] at e
    show _ = true
    rw [List.isEmpty_iff, ← List.length_eq_zero_iff]
    omega
  | true =>
    unfold fitN at e
    rw [c, if_pos rfl] at e
    have : ((zxs (roofL ls + 1).toNat).filter (fitZ ls)).length ≠ 0 := fun z => by
      rw [z] at e
      split at e
      · cases e
      · have := Int.pow_pos (n := 2) (m := (clsL ls (netF ls).Hd).length - 1) (by decide)
        omega
    cases z : (zxs (roofL ls + 1).toNat).filter (fitZ ls) with
    | nil => rw [z] at this; exact absurd rfl this
    | cons x l => rfl
section
variable {C : Cl} {w : PWi} {P : PEnds} {ρ : Rho} {M : Mm} {a : Addr} {ls : List (Int × Int)} {pa pb : PTE}
theorem parF2_ev {i j : Nat} {d : D} (h : Ev pb w ρ M d) (k : P.nx (st (st ρ i (.own [])) j (.val d)) M) : dParF2 i j pb w P ρ M := h _ k
theorem ev_callP {sp : PSp} {pl : PTA} {ds : List D} {v : D} (h : EvA pl w ρ M ds) (hn : noL v = true) (hs : ∀ (q : PQ) (e : PX), q v noM → sp ds noM q e) : Ev (dCallP sp pl) w ρ M v := fun q hq => h _ (hs _ _ ⟨hn, hq⟩)
theorem ofK_run {sp : PSpN} {ix : List Nat} {pl : PTA} {ds : List D} {q : PQ} (h : EvA pl w ρ M ds) (k : ∀ e, sp (pick ix ds) M q (fun l M' => q (.lst l) M') e) : dOfN (nCallK sp ix pl) w ρ M q := h _ (k _)
theorem set_ring {i : Nat} (h : LkOk ls) {d : D} (hd : isLks d ls) (ha : Ev pa w ρ M d) (h0 : isN (ringD ls) = true → P.nx (st ρ i (.val .non)) M) (h1 : ∀ r, isN (ringD ls) = false → ringD ls = .lst (r.map .int) → Rg ls r → P.nx (st ρ i (.own (r.map .int))) M) : dSetNw i (nCall (spN_ring C) (dCons pa dNil)) w P ρ M :=
  nCall_run (eva_cons ha eva_nil) fun e => ⟨ls, h, hd, by
    cases c : isN (ringD ls) with
    | true => rw [ringD_none c]; exact h0 c
    | false =>
      obtain ⟨r, er, g⟩ := ringD_rg c
      rw [er]
      exact h1 r c er g⟩
theorem ev_isR {i : Nat} {d : D} (h : Ev (dOwn i) w ρ M d) (hr : noRaw d = true) : Ev (dOp fIs (dOwn i) (dC .non)) w ρ M (.bl (isN d)) := ev_op h ev_c (o2_isN hr)
theorem ev_lring {d : D} {r : List Int} (h : LkOk ls) (hd : isLks d ls) (g : Rg ls r) (ha : Ev pa w ρ M d) (hb : Ev pb w ρ M (.lst (r.map .int))) : Ev (dCallP (sp__law_is_ring C) (dCons pa (dCons pb dNil))) w ρ M (.bl true) :=
  ev_callP (eva_cons ha (eva_cons hb eva_nil)) rfl fun q e hq => ⟨ls, r, h, hd, rfl, g, hq⟩
theorem ev_pring {d : D} {r : List Int} (h : LkOk ls) (hd : isLks d ls) (g : Rg ls r) (ha : Ev pa w ρ M d) (hb : Ev pb w ρ M (.lst (r.map .int))) : Ev (dCallP (sp_is_ringX C) (dCons pa (dCons pb dNil))) w ρ M (.bl true) :=
  ev_callP (eva_cons ha (eva_cons hb eva_nil)) rfl fun q e hq => by
    have h6 := h.2.1
    have := nodup_lenG (ms := r) (ns := zxs ls.length) g.nd fun k hk => zxs_mem.mpr (g.rg k hk)
    rw [zxs_len] at this
    refine ⟨ls, h, hd, ⟨rfl, by show (r.map D.int).length ≤ 1000; rw [List.length_map]; omega, fun x hx => ?_⟩, by rw [ringB_rg g]; exact hq⟩
    obtain ⟨k, _, rfl⟩ := List.mem_map.mp (show x ∈ r.map D.int from hx)
    exact ⟨rfl, rfl⟩
end
section
variable {C : Cl} {w : PWi} {P : PEnds} {M : Mm} {a : Addr} {x1 x2 x3 x4 x5 x6 x7 x8 x9 x10 : Option Sv} {ls : List (Int × Int)} {pl r : List Int} {m : Nat} {α β : Nat → Int}
theorem rr_3 {ps : List Int} (hN : P.nx (ρrr a (some (.own (ps.map .int))) x2 x3 x4 (some (.own [])) (some (.val (.int (ps.length : Nat)))) x7 x8 x9 x10) M) : rd_rr_3 C w P (ρrr a (some (.own (ps.map .int))) x2 x3 x4 x5 x6 x7 x8 x9 x10) M :=
  parF2_ev (d := .int (ps.length : Nat)) (by
    have := ev_b1 (ev_own (w := w) (M := M) (ρ := ρrr a (some (.own (ps.map .int))) x2 x3 x4 x5 x6 x7 x8 x9 x10) (i := 1) rfl) (o1_lenL (l := ps.map .int))
    rwa [List.length_map] at this) hN
theorem rr_7 (h : LkOk ls) (h0 : isN (ringD ls) = true → P.nx (ρrr a x1 x2 x3 x4 (some (.val (.lst (ls.map lkD)))) x6 x7 x8 x9 (some (.val .non))) M) (h1 : ∀ r, isN (ringD ls) = false → ringD ls = .lst (r.map .int) → Rg ls r → P.nx (ρrr a x1 x2 x3 x4 (some (.val (.lst (ls.map lkD)))) x6 x7 x8 x9 (some (.own (r.map .int)))) M) :
    rd_rr_7 C w P (ρrr a x1 x2 x3 x4 (some (.own (ls.map lkD))) x6 x7 x8 x9 x10) M :=
  frz9 rfl (set_ring h (.inl rfl) (ev_var (ρ := ρrr a x1 x2 x3 x4 (some (.val (.lst (ls.map lkD)))) x6 x7 x8 x9 x10) (i := 5) rfl) h0 h1)
theorem rr_8E (h : LkOk ls) (R : Rnd ls α β) (he : prT (fun j => α j * β j) ls.length = 1) (hp : pl.length % 2 = 0) (hN : P.rt (.bl true) M) : rd_rr_8 C w P (ρrr a x1 x2 x3 x4 (some (.val (.lst (ls.map lkD)))) x6 x7 x8 (some (.val (.lst (pl.map .int)))) (some (.val .non))) M := by
  have e1 := evt (ev_op (ev_op (ev_b1 (ev_var (w := w) (M := M) (ρ := ρrr a x1 x2 x3 x4 (some (.val (.lst (ls.map lkD)))) x6 x7 x8 (some (.val (.lst (pl.map .int)))) (some (.val .non))) (i := 9) (d := .lst (pl.map .int)) rfl) o1_lenL) (ev_c (d := .int 2)) (o2_mod (by decide))) (ev_c (d := .int 0)) o2_eqI)
  rw [decide_eq_true (by rw [List.length_map]; omega)] at e1
  refine if_T e1 ?_
  have ef : Ev (dOp fEq (dCall (sp_fitting C) [] (dCons (dVar 5) dNil)) (dC (.int 1))) w (ρrr a x1 x2 x3 x4 (some (.val (.lst (ls.map lkD)))) x6 x7 x8 (some (.val (.lst (pl.map .int)))) (some (.val .non))) M (.bl true) := by
    have := ev_op (ev_call (sp := sp_fitting C) (v := .int (fitN ls)) (eva_cons (ev_var (w := w) (M := M) (ρ := ρrr a x1 x2 x3 x4 (some (.val (.lst (ls.map lkD)))) x6 x7 x8 (some (.val (.lst (pl.map .int)))) (some (.val .non))) (i := 5) (d := .lst (ls.map lkD)) rfl) eva_nil) fun q e hq => ⟨ls, h, .inl rfl, hq⟩) (ev_c (d := .int 1)) o2_eqI
    rw [R.fit1 h.lk he] at this
    exact this
  exact (ev_and (b := true) (c := true) (ev_isR (ev_ownV (i := 10) (d := .non) rfl) rfl) (fun _ => ef) rfl) _ hN
theorem rr_8O (hp : ¬ pl.length % 2 = 0) (hN : P.nx (ρrr a x1 x2 x3 x4 x5 x6 x7 x8 (some (.val (.lst (pl.map .int)))) x10) M) : rd_rr_8 C w P (ρrr a x1 x2 x3 x4 x5 x6 x7 x8 (some (.val (.lst (pl.map .int)))) x10) M := by
  have e1 := evt (ev_op (ev_op (ev_b1 (ev_var (w := w) (M := M) (ρ := ρrr a x1 x2 x3 x4 x5 x6 x7 x8 (some (.val (.lst (pl.map .int)))) x10) (i := 9) (d := .lst (pl.map .int)) rfl) o1_lenL) (ev_c (d := .int 2)) (o2_mod (by decide))) (ev_c (d := .int 0)) o2_eqI)
  rw [decide_eq_false (by rw [List.length_map]; omega)] at e1
  exact if_F e1 hN
theorem rr_9 (h : LkOk ls) (R : Rnd ls α β) (hc : isN (ringD ls) = false) (g : Rg ls r) (hN : P.nx (ρrr a x1 x2 x3 x4 (some (.val (.lst (ls.map lkD)))) (some (.val (.int (ls.length : Nat)))) x7 x8 x9 (some (.own (r.map .int)))) M) :
    rd_rr_9 C w P (ρrr a x1 x2 x3 x4 (some (.val (.lst (ls.map lkD)))) (some (.val (.int (ls.length : Nat)))) x7 x8 x9 (some (.own (r.map .int)))) M := by
  have h6 := h.2.1
  have hl := R.ring_len g
  have e1 := evt (ev_isR (ev_own (w := w) (M := M) (ρ := ρrr a x1 x2 x3 x4 (some (.val (.lst (ls.map lkD)))) (some (.val (.int (ls.length : Nat)))) x7 x8 x9 (some (.own (r.map .int)))) (i := 10) (l := r.map .int) rfl) rfl)
  have e2 : EvT (dTst (dOp fNe (dL (dG1 fSortI (dOwn 10))) (dL (dLRg1 (dVar 6))))) w (ρrr a x1 x2 x3 x4 (some (.val (.lst (ls.map lkD)))) (some (.val (.int (ls.length : Nat)))) x7 x8 x9 (some (.own (r.map .int)))) M false := by
    intro q hq
    unfold dTst dOp dL dG1 dLRg1
    refine ev_own (w := w) (M := M) (ρ := ρrr a x1 x2 x3 x4 (some (.val (.lst (ls.map lkD)))) (some (.val (.int (ls.length : Nat)))) x7 x8 x9 (some (.own (r.map .int)))) (i := 10) (l := r.map .int) rfl _ ⟨r, rfl, by omega, fun ms p1 p2 => ?_⟩
    refine ev_var (i := 6) (d := .int (ls.length : Nat)) rfl _ ⟨⟨by omega, by omega⟩, ?_⟩
    rw [show ((ls.length : Nat) : Int).toNat = ls.length by omega, rngZ]
    have e : ms = zxs ls.length := srt_uniq (le_lt p2 (p1.nodup_iff.mpr g.nd)) (zxs_srt _) fun k => p1.mem_iff.trans (R.ring_mem g k).symm
    rw [e]
    have o := o2_ne (x := .lst ((zxs ls.length).map .int)) (y := .lst ((zxs ls.length).map .int)) (okD_ints _) (okD_ints _)
    rw [eqD_rf] at o
    exact o _ hq
  have e3 := evt (ev_op (ev_call (sp := sp_fitting C) (v := .int (fitN ls)) (eva_cons (ev_var (w := w) (M := M) (ρ := ρrr a x1 x2 x3 x4 (some (.val (.lst (ls.map lkD)))) (some (.val (.int (ls.length : Nat)))) x7 x8 x9 (some (.own (r.map .int)))) (i := 5) (d := .lst (ls.map lkD)) rfl) eva_nil) fun q e hq => ⟨ls, h, .inl rfl, hq⟩) (ev_c (d := .int 0)) o2_neI)
  have ez : fitN ls = 0 := by unfold fitN; rw [hc]; rfl
  rw [ez] at e3
  exact if_F (evt_orF e1 (evt_orF e2 e3)) hN
theorem rr_10 (h : LkOk ls) (g : Rg ls r) (hN : P.rt (.bl true) M) : rd_rr_10 C w P (ρrr a x1 x2 x3 x4 (some (.val (.lst (ls.map lkD)))) x6 x7 x8 x9 (some (.own (r.map .int)))) M :=
  ret_ev (d := .bl true) (ev_and (b := true) (c := true) (ev_lring h (.inl rfl) g (ev_ownV (i := 5) rfl) (ev_own (i := 10) rfl)) (fun _ => ev_op (ev_pring h (.inl rfl) g (ev_ownV (i := 5) rfl) (ev_own (i := 10) rfl)) (ev_c (d := .bl true)) (show Op2 (fIsBl false) (.bl true) (.bl true) (.bl true) from fun k hk => hk)) rfl) hN
end
theorem sh__law_round_right (C : Cl) : Shows (sp__law_round_right C) 11 (rd__law_round_right C) := by
  intro ds M q e h
  obtain ⟨d, rfl, h⟩ := ar1_of h
  obtain ⟨a, rfl, hm, hq⟩ := asDraw_of h
  have hR : ∃ M2, MLe M2 M ∧ q (.bl true) M2 := ⟨M, MLe.refl M, hq⟩
  refine sqStep (⟨by show 6 ≤ 1000000; decide, ?_⟩ : rd_rr_0 C _ _ _ _)
  refine sqStep (rr_1 (C := C) (a := a) (x3 := none) (x4 := none) (x5 := none) (x6 := none) (x7 := none) (x8 := none) (x9 := none) (x10 := none) hm fun ps y2 y3 hp => ?_)
  refine sqStep (rr_2 (C := C) hm fun n f hn => ?_)
  have m6 := hp.len
  dsimp only
  refine sqStep (rr_3 (C := C) (ps := ps) ?_)
  dsimp only
  refine sqStep (rr_4 (C := C) (o7 := none) (x8 := none) (x9 := none) (x10 := none) hp f hn fun o7 y8 => ?_)
  refine sqStep (rr_5 (C := C) hm m6 fun pl hs => ?_)
  refine sqStep (rr_6 (C := C) hp hs (tn_0 hp) fun ls y7 T => ?_)
  obtain ⟨α, β, R, K, hpr⟩ := T.rnd hp f hs
  refine sqStep (rr_7 (C := C) K (fun c => ?_) fun r c er g => ?_)
  · by_cases z : pl.length % 2 = 0
    · rw [if_pos z] at hpr
      exact sqStep (rr_8E (C := C) K R hpr z hR)
    · rw [if_neg z] at hpr
      have := R.odd hpr
      rw [this] at c; cases c
  · by_cases z : pl.length % 2 = 0
    · rw [if_pos z] at hpr
      have := R.even hpr
      rw [this] at c; cases c
    · refine sqStep (rr_8O (C := C) z ?_)
      have el : ps.length = ls.length := T.1.symm
      rw [el]
      refine sqStep (rr_9 (C := C) K R c g ?_)
      exact rr_10 (C := C) K g hR
section
variable {C : Cl} {w : PWi} {P : PEnds} {M : Mm} {a : Addr} {s0 s2 x3 x4 x5 x6 x7 : Option Sv} {ls : List (Int × Int)} {r : List Int}
abbrev ρ07 (s0 : Option Sv) (a : Addr) (s2 x3 x4 x5 x6 x7 : Option Sv) : Rho := [s0, some (.val (.raw (.ref a))), s2, x3, x4, x5, x6, x7, none, none, none]
theorem l07_0 (hm : M a = some .draw) (hN : P.nx (ρ07 s0 a s2 x3 x4 x5 x6 x7) M) : rd_l07_0 C w P (ρ07 s0 a s2 x3 x4 x5 x6 x7) M :=
  if_F (evt_not (evt (ev_call (sp := sp__law_round_right C) (v := .bl true) (eva_cons (ev_var (i := 1) (d := .raw (.ref a)) rfl) eva_nil) fun q e hq => ⟨hm, hq⟩))) hN
theorem l07_1 (hm : M a = some .draw) (hN : ∀ ls, LkOk ls → roofL ls ≤ 400 → P.nx (ρ07 s0 a s2 (some (.val (.lst (ls.map lkD)))) x4 x5 x6 x7) M) : rd_l07_1 C w P (ρ07 s0 a s2 x3 x4 x5 x6 x7) M := by
  have g1 : EvG (dCall (sp__law_sights C) [] (dCons (dVar 1) (dCons (dC (.int 400)) dNil))) w (ρ07 s0 a s2 x3 x4 x5 x6 x7) M (fun z => ∃ ls, z = .lst (ls.map lkD) ∧ LkOk ls ∧ roofL ls ≤ 400) := fun q hq =>
    (eva_cons (ev_var (i := 1) (d := .raw (.ref a)) rfl) (eva_cons ev_c eva_nil)) _ ⟨hm, ⟨by decide, by decide⟩, fun ls h r => hq _ ⟨ls, rfl, h, r⟩⟩
  refine set_evg g1 ?_
  rintro _ ⟨ls, rfl, h, r⟩
  exact hN ls h r
theorem l07_2 (h : LkOk ls) (hN : P.nx (ρ07 s0 a s2 (some (.val (.lst (ls.map lkD)))) (some (.val (.int (roofL ls)))) x5 x6 x7) M) : rd_l07_2 C w P (ρ07 s0 a s2 (some (.val (.lst (ls.map lkD)))) x4 x5 x6 x7) M := by
  have h6 := h.2.1
  have hc : EvA (dComp [8, 9] (iA (dVar 3)) (gTp 2 (gsCons (gNm 8) (gsCons (gNm 9) gsNil))) dYes (dVar 8)) w (ρ07 s0 a s2 (some (.val (.lst (ls.map lkD)))) x4 x5 x6 x7) M ((ls.map (·.1)).map .int) := by
    intro κ hκ
    refine ⟨rfl, ?_⟩
    refine compR_map (fun d => match d with | .tup [.int h, _] => .int h | _ => .non) (ls.map lkD) (fun y hy kt kf hk => ?_) (by rw [List.length_map]; omega) ?_
    · obtain ⟨p, hp, rfl⟩ := List.mem_map.mp hy
      exact ⟨rfl, hk⟩
    · have e2 : (ls.map lkD).map (fun d => match d with | .tup [.int h, _] => .int h | _ => .non) = (ls.map (·.1)).map D.int := by rw [List.map_map, List.map_map]; rfl
      rw [e2]
      exact hκ
  have ho : HsOk (ls.map (·.1)) := ⟨fun z => h.1 (List.map_eq_nil_iff.mp z), by rw [List.length_map]; exact h6, fun n hn => by
    obtain ⟨p, hp, rfl⟩ := List.mem_map.mp hn
    exact (h.2.2 p hp).1⟩
  exact set_ev (ev_lcm9 ho (ev_lc hc)) hN
theorem l07_3 (h : LkOk ls) (r : roofL ls ≤ 400) (hN : P.nx (ρ07 s0 a s2 (some (.val (.lst (ls.map lkD)))) (some (.val (.int (roofL ls)))) (some (.val (.lst (((zxs (roofL ls + 1).toNat).filter (fitZ ls)).map .int)))) x6 x7) M) :
    rd_l07_3 C w P (ρ07 s0 a s2 (some (.val (.lst (ls.map lkD)))) (some (.val (.int (roofL ls)))) x5 x6 x7) M := by
  have rp := roof_pos h.lk
  have hc : EvA (dComp [10] (iR1 (dOp fAdd (dVar 4) (dC (.int 1)))) (gNm 10) (dTst (dCall (sp__law_fit C) [] (dCons (dVar 3) (dCons (dVar 10) dNil)))) (dVar 10)) w (ρ07 s0 a s2 (some (.val (.lst (ls.map lkD)))) (some (.val (.int (roofL ls)))) x5 x6 x7) M (((zxs (roofL ls + 1).toNat).filter (fitZ ls)).map .int) := by
    intro κ hκ
    refine ⟨rfl, ?_⟩
    have e1 : Ev (dOp fAdd (dVar 4) (dC (.int 1))) w (ρ07 s0 a s2 (some (.val (.lst (ls.map lkD)))) (some (.val (.int (roofL ls)))) x5 x6 x7) M (.int (roofL ls + 1)) := ev_op (ev_var rfl) ev_c o2_add
    refine e1 _ ⟨by omega, by omega, ?_⟩
    rw [rngZ]
    refine compR_fm (fmZ (fitZ ls)) _ [] (fun y hy kt kf hk => ?_) (by rw [List.length_map, zxs_len]; show 0 + _ ≤ 1000000; omega) ?_
    · obtain ⟨x, hx, rfl⟩ := List.mem_map.mp hy
      have hx' := zxs_mem.mp hx
      have hk : match (if fitZ ls x = true then some (D.int x) else none) with | some y => kt y M | none => kf M := hk
      have ht : EvT (dTst (dCall (sp__law_fit C) [] (dCons (dVar 3) (dCons (dVar 10) dNil)))) w0 [s0, some (.val (.raw (.ref a))), s2, some (.val (.lst (ls.map lkD))), some (.val (.int (roofL ls))), x5, x6, x7, none, none, some (.val (.int x))] M (fitZ ls x) :=
        evt (ev_call (eva_cons (ev_var rfl) (eva_cons (ev_var rfl) eva_nil)) fun q e hq => ⟨ls, h, rfl, ⟨hx'.1, by omega⟩, hq⟩)
      refine ht _ ?_
      by_cases z : fitZ ls x = true
      · rw [if_pos z] at hk ⊢
        exact ev_var (ρ := [s0, some (.val (.raw (.ref a))), s2, some (.val (.lst (ls.map lkD))), some (.val (.int (roofL ls))), x5, x6, x7, none, none, some (.val (.int x))]) (i := 10) rfl _ hk
      · rw [if_neg z] at hk ⊢
        exact hk
    · rw [List.nil_append, fm_intZ]
      exact hκ
  exact set_ev (ev_lc hc) hN
theorem okD_nil : okD 50 (.lst []) = true := rfl
theorem l07_5 (h : LkOk ls) {x6 : Sv} {d : D} (hd : d = ringD ls) (hx : ∀ ρ : Rho, gt ρ 6 = some x6 → Ev (dOwn 6) w ρ M d) (hN : P.nx (ρ07 s0 a s2 x3 x4 (some (.val (.lst (((zxs (roofL ls + 1).toNat).filter (fitZ ls)).map .int)))) (some x6) x7) M) :
    rd_l07_5 C w P (ρ07 s0 a s2 x3 x4 (some (.val (.lst (((zxs (roofL ls + 1).toNat).filter (fitZ ls)).map .int)))) (some x6) x7) M := by
  have e1 := ev_isR (hx (ρ07 s0 a s2 x3 x4 (some (.val (.lst (((zxs (roofL ls + 1).toNat).filter (fitZ ls)).map .int)))) (some x6) x7) rfl) (by rw [hd]; exact ringD_raw ls)
  have e2 := ev_op (ev_var (w := w) (M := M) (ρ := ρ07 s0 a s2 x3 x4 (some (.val (.lst (((zxs (roofL ls + 1).toNat).filter (fitZ ls)).map .int)))) (some x6) x7) (i := 5) rfl) (ev_lst eva_nil (by decide)) (o2_ne (okD_ints' ((zxs (roofL ls + 1).toNat).filter (fitZ ls))) okD_nil)
  have e3 := evt (ev_op e1 e2 (o2_ne (x := .bl (isN d)) (y := .bl (!eqD (.lst (((zxs (roofL ls + 1).toNat).filter (fitZ ls)).map .int)) (.lst []))) rfl rfl))
  have k : (!eqD (.lst (((zxs (roofL ls + 1).toNat).filter (fitZ ls)).map .int)) (.lst [])) = isN d := by
    rw [neB_nil, List.isEmpty_map, fits_ring h, Bool.not_not, hd]
  rw [k, eqD_rf] at e3
  exact if_F e3 hN
theorem l07_4 (h : LkOk ls) (h0 : isN (ringD ls) = true → P.nx (ρ07 s0 a s2 (some (.val (.lst (ls.map lkD)))) x4 x5 (some (.val .non)) x7) M) (h1 : ∀ r, isN (ringD ls) = false → ringD ls = .lst (r.map .int) → Rg ls r → P.nx (ρ07 s0 a s2 (some (.val (.lst (ls.map lkD)))) x4 x5 (some (.own (r.map .int))) x7) M) :
    rd_l07_4 C w P (ρ07 s0 a s2 (some (.val (.lst (ls.map lkD)))) x4 x5 x6 x7) M := set_ring h (.inl rfl) (ev_var (i := 3) rfl) h0 h1
theorem l07_b (hm : M a = some .draw) (hN : ∀ z3 z4 z5 z6 z7, P.nx (ρ07 s0 a s2 z3 z4 z5 z6 z7) M) (hC : ∀ z3 z4 z5 z6 z7, P.ct (ρ07 s0 a s2 z3 z4 z5 z6 z7) M) : rd_l07_b C w P (ρ07 s0 a s2 x3 x4 x5 x6 x7) M := by
  refine sqStep (l07_0 (C := C) hm ?_)
  refine sqStep (l07_1 (C := C) hm fun ls h r => ?_)
  refine sqStep (l07_2 (C := C) h ?_)
  refine sqStep (l07_3 (C := C) h r ?_)
  refine sqStep (l07_4 (C := C) h (fun c => ?_) fun rg c er g => ?_)
  · refine sqStep (l07_5 (C := C) (x6 := .val .non) h (ringD_none c).symm (fun ρ hg => ev_ownV hg) ?_)
    have e1 := evt (ev_isR (ev_ownV (w := w) (M := M) (ρ := ρ07 s0 a s2 (some (.val (.lst (ls.map lkD)))) (some (.val (.int (roofL ls)))) (some (.val (.lst (((zxs (roofL ls + 1).toNat).filter (fitZ ls)).map .int)))) (some (.val .non)) x7) (i := 6) (d := .non) rfl) rfl)
    exact sqStep (if_T e1 (hC _ _ _ _ _))
  · refine sqStep (l07_5 (C := C) (x6 := .own (rg.map .int)) h er.symm (fun ρ hg => ev_own hg) ?_)
    have rw6 : gt (ρ07 s0 a s2 (some (.val (.lst (ls.map lkD)))) (some (.val (.int (roofL ls)))) (some (.val (.lst (((zxs (roofL ls + 1).toNat).filter (fitZ ls)).map .int)))) (some (.own (rg.map .int))) x7) 6 = some (.own (rg.map .int)) := rfl
    have e6 := ev_own (w := w) (M := M) rw6
    have e3 := ev_var (w := w) (M := M) (ρ := ρ07 s0 a s2 (some (.val (.lst (ls.map lkD)))) (some (.val (.int (roofL ls)))) (some (.val (.lst (((zxs (roofL ls + 1).toNat).filter (fitZ ls)).map .int)))) (some (.own (rg.map .int))) x7) (i := 3) (d := .lst (ls.map lkD)) rfl
    refine sqStep (if_F (evt (ev_isR e6 rfl)) ?_)
    have t1 : EvT (dNot (dTst (dB1 (fIsi "list") (dOwn 6)))) w (ρ07 s0 a s2 (some (.val (.lst (ls.map lkD)))) (some (.val (.int (roofL ls)))) (some (.val (.lst (((zxs (roofL ls + 1).toNat).filter (fitZ ls)).map .int)))) (some (.own (rg.map .int))) x7) M false := evt_not (evt (ev_b1 e6 (z := .bl true) (fun k hk => hk)))
    have t2 := evt_not (evt (ev_lring (C := C) h (.inl rfl) g e3 e6))
    have t3 := evt (ev_op (ev_pring (C := C) h (.inl rfl) g e3 e6) (ev_c (d := .bl true)) (show Op2 (fIsBl true) (.bl true) (.bl true) (.bl false) from fun k hk => hk))
    refine sqStep (if_F (evt_orF t1 (evt_orF t2 t3)) ?_)
    dsimp only [dNext]
    refine sqStep (set_ev (d := .lst (rg.map .int)) (listc_ev e6) ?_)
    have rl : rg.length ≤ 6 := by
      have := nodup_lenG (ms := rg) (ns := zxs ls.length) g.nd fun k hk => zxs_mem.mpr (g.rg k hk)
      rw [zxs_len] at this
      have := h.2.1
      omega
    refine sqStep (app_ev (l := rg.map .int) rfl (by rw [List.length_map]; omega) (ev_c (d := .non)) ?_)
    have e10 : Ev (dOfN (nCallK (spN_ring C) [0] (dCons (dB1 fTup (dVar 3)) dNil))) w (ρ07 s0 a s2 (some (.val (.lst (ls.map lkD)))) (some (.val (.int (roofL ls)))) (some (.val (.lst (((zxs (roofL ls + 1).toNat).filter (fitZ ls)).map .int)))) (some (.own (rg.map .int ++ [.non]))) (some (.val (.lst (rg.map .int))))) M (.lst (rg.map .int)) := fun q hq =>
      ofK_run (eva_cons (ev_b1 (ev_var (i := 3) (d := .lst (ls.map lkD)) rfl) o1_tupL) eva_nil) fun e' => ⟨ls, h, .inr rfl, by rw [er]; exact hq⟩
    have t4 := evt (ev_op e10 (ev_var (i := 7) (d := .lst (rg.map .int)) rfl) (o2_ne (okD_ints' rg) (okD_ints' rg)))
    rw [eqD_rf] at t4
    exact if_F t4 (hN _ _ _ _ _)
end
theorem sh_law (C : Cl) : Shows sp_law 11 (rd_law C) := by
  intro ds M q e h
  obtain ⟨d, rfl, h⟩ := ar1_of h
  obtain ⟨ns, rfl, hn, hq⟩ : ∃ ns, d = .scr ns ∧ ns.length ≤ 63 ∧ q (.bl true) M := by
    cases d with
    | scr ns => exact ⟨ns, rfl, h.1, h.2⟩
    | _ => exact (show False from h).elim
  refine ⟨hn, fun a ha => ?_⟩
  have hm : updM M a .draw a = some .draw := updM_same
  have bd : -1000000 ≤ (4 : Int) + (if (16 : Int) < (ns.length : Nat) then (16 : Int) else ((ns.length : Nat) : Int)) ∧ (4 : Int) + (if (16 : Int) < (ns.length : Nat) then (16 : Int) else ((ns.length : Nat) : Int)) ≤ 1000000 := by split <;> omega
  refine ⟨bd.1, bd.2, ?_⟩
  refine forR_ind (fun _ ρ M' => M' = updM M a .draw ∧ ∃ x2 x3 x4 x5 x6 x7 : Option Sv, ρ = ρ07 (some (.val (.scr ns))) a x2 x3 x4 x5 x6 x7) ?_ ?_ _ _ _ ⟨rfl, none, none, none, none, none, none, rfl⟩
  · rintro d r ρ M' ⟨rfl, x2, x3, x4, x5, x6, x7, rfl⟩ F hF
    exact l07_b (C := C) hm (fun _ _ _ _ _ => hF _ _ ⟨rfl, _, _, _, _, _, _, rfl⟩) (fun _ _ _ _ _ => hF _ _ ⟨rfl, _, _, _, _, _, _, rfl⟩)
  · rintro ρ M' ⟨rfl, x2, x3, x4, x5, x6, x7, rfl⟩
    exact ⟨M, updM_le ha, hq⟩
end Px
set_option Elab.async false
set_option linter.all false
set_option maxRecDepth 100000
namespace Px
open PySem PySem.Spec PyProof.Rows L2
def top (i : Nat) : Stmt := PySem.Challenge.pw_flashfolds_k07_rings_of_looks.main.body.getD i (.Pass ⟨0, 0, 0, 0⟩)
abbrev s_is_integer : Stmt := top 5
theorem sc_is_integer : FnScope ["thing"] ["thing"] (defScope s_is_integer) := ⟨rfl, rfl, rfl, by decide +kernel, rfl, by decide +kernel, by decide +kernel⟩
abbrev s_divisor : Stmt := top 7
theorem sc_divisor : FnScope ["one", "other"] ["one", "other"] (defScope s_divisor) := ⟨rfl, rfl, rfl, by decide +kernel, rfl, by decide +kernel, by decide +kernel⟩
abbrev s_Net_way : Stmt := inClass (top 19) 2
theorem sc_Net_way : FnScope ["self", "at", "found"] ["self", "at"] (defScope s_Net_way) := ⟨rfl, rfl, rfl, by decide +kernel, rfl, by decide +kernel, by decide +kernel⟩
abbrev s_Net_classes : Stmt := inClass (top 19) 4
theorem sc_Net_classes : FnScope ["self", "found", "head", "half", "number"] ["self"] (defScope s_Net_classes) := ⟨rfl, rfl, rfl, by decide +kernel, rfl, by decide +kernel, by decide +kernel⟩
abbrev s__law_begin : Stmt := top 25
theorem sc__law_begin : FnScope ["_law_script", "_law_large", "_law_cell"] ["_law_script"] (defScope s__law_begin) := ⟨rfl, rfl, rfl, by decide +kernel, rfl, by decide +kernel, by decide +kernel⟩
abbrev s__law_take : Stmt := top 26
theorem sc__law_take : FnScope ["_law_draw", "_law_size", "_law_cell", "_law_found"] ["_law_draw", "_law_size"] (defScope s__law_take) := ⟨rfl, rfl, rfl, by decide +kernel, rfl, by decide +kernel, by decide +kernel⟩
abbrev s__law_fraction : Stmt := top 28
theorem sc__law_fraction : FnScope ["_law_top", "_law_bottom", "_law_one", "_law_other"] ["_law_top", "_law_bottom"] (defScope s__law_fraction) := ⟨rfl, rfl, rfl, by decide +kernel, rfl, by decide +kernel, by decide +kernel⟩
abbrev s__law_lcm : Stmt := top 29
theorem sc__law_lcm : FnScope ["_law_numbers", "_law_found", "_law_number", "_law_one", "_law_other"] ["_law_numbers"] (defScope s__law_lcm) := ⟨rfl, rfl, rfl, by decide +kernel, rfl, by decide +kernel, by decide +kernel⟩
abbrev s__law_gcd : Stmt := top 33
theorem sc__law_gcd : FnScope ["_law_one", "_law_other"] ["_law_one", "_law_other"] (defScope s__law_gcd) := ⟨rfl, rfl, rfl, by decide +kernel, rfl, by decide +kernel, by decide +kernel⟩
abbrev s__law_turned : Stmt := top 38
theorem sc__law_turned : FnScope ["_law_look", "_law_steps", "_law_half_here", "_law_shown", "_law_number", "_law_marks", "_law_step"] ["_law_look", "_law_steps"] (defScope s__law_turned) := ⟨rfl, rfl, rfl, by decide +kernel, rfl, by decide +kernel, by decide +kernel⟩
abbrev s_is_between : Stmt := top 6
theorem sc_is_between : FnScope ["thing", "low", "high"] ["thing", "low", "high"] (defScope s_is_between) := ⟨rfl, rfl, rfl, by decide +kernel, rfl, by decide +kernel, by decide +kernel⟩
abbrev s_bond : Stmt := top 17
theorem sc_bond : FnScope ["one", "other", "step", "can_be_alike", "can_be_unlike"] ["one", "other"] (defScope s_bond) := ⟨rfl, rfl, rfl, by decide +kernel, rfl, by decide +kernel, by decide +kernel⟩
abbrev s__law_pick : Stmt := top 27
theorem sc__law_pick : FnScope ["_law_draw", "_law_some"] ["_law_draw", "_law_some"] (defScope s__law_pick) := ⟨rfl, rfl, rfl, by decide +kernel, rfl, by decide +kernel, by decide +kernel⟩
abbrev s__law_seen : Stmt := top 32
theorem sc__law_seen : FnScope ["_law_half_here", "_law_one", "_law_top", "_law_bottom", "_law_below", "_law_gap"] ["_law_half_here", "_law_one"] (defScope s__law_seen) := ⟨rfl, rfl, rfl, by decide +kernel, rfl, by decide +kernel, by decide +kernel⟩
abbrev s__law_bond : Stmt := top 34
theorem sc__law_bond : FnScope ["_law_one", "_law_other", "_law_step"] ["_law_one", "_law_other"] (defScope s__law_bond) := ⟨rfl, rfl, rfl, by decide +kernel, rfl, by decide +kernel, by decide +kernel⟩
abbrev s_is_half : Stmt := top 8
theorem sc_is_half : FnScope ["thing"] ["thing"] (defScope s_is_half) := ⟨rfl, rfl, rfl, by decide +kernel, rfl, by decide +kernel, by decide +kernel⟩
abbrev s_clashing_pair : Stmt := top 18
theorem sc_clashing_pair : FnScope ["looks", "at", "before"] ["looks"] (defScope s_clashing_pair) := ⟨rfl, rfl, rfl, by decide +kernel, rfl, by decide +kernel, by decide +kernel⟩
abbrev s_Net_go_through : Stmt := inClass (top 19) 1
theorem sc_Net_go_through : FnScope ["self", "first", "line", "at", "other", "word"] ["self", "first"] (defScope s_Net_go_through) := ⟨rfl, rfl, rfl, by decide +kernel, rfl, by decide +kernel, by decide +kernel⟩
abbrev s_Net_odd_ring : Stmt := inClass (top 19) 3
theorem sc_Net_odd_ring : FnScope ["self", "at", "before", "word", "same", "here", "there", "top", "one"] ["self"] (defScope s_Net_odd_ring) := ⟨rfl, rfl, rfl, by decide +kernel, rfl, by decide +kernel, by decide +kernel⟩
abbrev s__law_half : Stmt := top 30
theorem sc__law_half : FnScope ["_law_draw", "_law_some"] ["_law_draw"] (defScope s__law_half) := ⟨rfl, rfl, rfl, by decide +kernel, rfl, by decide +kernel, by decide +kernel⟩
abbrev s__law_fit : Stmt := top 35
theorem sc__law_fit : FnScope ["_law_sights_here", "_law_number", "_law_half_here", "_law_shown"] ["_law_sights_here", "_law_number"] (defScope s__law_fit) := ⟨rfl, rfl, rfl, by decide +kernel, rfl, by decide +kernel, by decide +kernel⟩
abbrev s__law_is_ring : Stmt := top 37
theorem sc__law_is_ring : FnScope ["_law_sights_here", "_law_some", "_law_bonds", "_law_k", "_law_bond_here"] ["_law_sights_here", "_law_some"] (defScope s__law_is_ring) := ⟨rfl, rfl, rfl, by decide +kernel, rfl, by decide +kernel, by decide +kernel⟩
abbrev s_is_look : Stmt := top 15
theorem sc_is_look : FnScope ["thing"] ["thing"] (defScope s_is_look) := ⟨rfl, rfl, rfl, by decide +kernel, rfl, by decide +kernel, by decide +kernel⟩
abbrev s_Net___init__ : Stmt := inClass (top 19) 0
theorem sc_Net___init__ : FnScope ["self", "looks", "at"] ["self", "looks"] (defScope s_Net___init__) := ⟨rfl, rfl, rfl, by decide +kernel, rfl, by decide +kernel, by decide +kernel⟩
abbrev s__law_halves : Stmt := top 31
theorem sc__law_halves : FnScope ["_law_draw", "_law_many", "_law_most", "_law_found", "_law_turn", "_law_half_here"] ["_law_draw", "_law_many", "_law_most"] (defScope s__law_halves) := ⟨rfl, rfl, rfl, by decide +kernel, rfl, by decide +kernel, by decide +kernel⟩
abbrev s_need_looks : Stmt := top 16
theorem sc_need_looks : FnScope ["looks", "at", "look"] ["looks"] (defScope s_need_looks) := ⟨rfl, rfl, rfl, by decide +kernel, rfl, by decide +kernel, by decide +kernel⟩
abbrev s__law_sights : Stmt := top 36
theorem sc__law_sights : FnScope ["_law_draw", "_law_most", "_law_halves_here", "_law_number", "_law_found", "_law_half_here", "_law_shown", "_law_way"] ["_law_draw", "_law_most"] (defScope s__law_sights) := ⟨rfl, rfl, rfl, by decide +kernel, rfl, by decide +kernel, by decide +kernel⟩
abbrev s_ring_of : Stmt := top 20
theorem sc_ring_of : FnScope ["looks", "pair"] ["looks"] (defScope s_ring_of) := ⟨rfl, rfl, rfl, by decide +kernel, rfl, by decide +kernel, by decide +kernel⟩
abbrev s_is_ring : Stmt := top 22
theorem sc_is_ring : FnScope ["looks", "thing", "words", "at", "k", "word"] ["looks", "thing"] (defScope s_is_ring) := ⟨rfl, rfl, rfl, by decide +kernel, rfl, by decide +kernel, by decide +kernel⟩
abbrev s_ring : Stmt := top 21
theorem sc_ring : FnScope ["looks"] ["looks"] (defScope s_ring) := ⟨rfl, rfl, rfl, by decide +kernel, rfl, by decide +kernel, by decide +kernel⟩
abbrev s_fitting : Stmt := top 23
theorem sc_fitting : FnScope ["looks", "many"] ["looks"] (defScope s_fitting) := ⟨rfl, rfl, rfl, by decide +kernel, rfl, by decide +kernel, by decide +kernel⟩
abbrev s__law_round_right : Stmt := top 39
theorem sc__law_round_right : FnScope ["_law_draw", "_law_primes", "_law_left", "_law_turn", "_law_number", "_law_sights_here", "_law_many", "_law_at", "_law_half_here", "_law_places", "_law_found"] ["_law_draw"] (defScope s__law_round_right) := ⟨rfl, rfl, rfl, by decide +kernel, rfl, by decide +kernel, by decide +kernel⟩
abbrev s_law : Stmt := top 40
theorem sc_law : FnScope ["_law_script", "_law_draw", "_law_turn", "_law_sights_here", "_law_roof", "_law_some", "_law_found", "_law_kept_here", "_law_half_here", "_law_shown", "_law_number"] ["_law_script"] (defScope s_law) := ⟨rfl, rfl, rfl, by decide +kernel, rfl, by decide +kernel, by decide +kernel⟩
abbrev s_BadLook___init__ : Stmt := inClass (top 2) 0
theorem iw_BadLook : InitW s_BadLook___init__ "BadLook.__init__" "at" "at" := ⟨_, _, _, _, _, _, _, _, _, _, _, _, _, rfl, rfl, rfl, fun _ _ _ _ _ _ _ _ _ => rfl, rfl, rfl, rfl, rfl, by decide +kernel, rfl, rfl, rfl, by decide, by decide, fun _ _ _ _ => rfl, fun _ _ _ _ => rfl, fun _ _ _ _ => rfl, _, fun _ _ _ _ => rfl⟩
structure Ad where
  (is_integer divisor Net_way Net_classes _law_begin _law_take _law_fraction _law_lcm _law_gcd _law_turned is_between bond _law_pick _law_seen _law_bond is_half clashing_pair Net_go_through Net_odd_ring _law_half _law_fit _law_is_ring is_look Net___init__ _law_halves need_looks _law_sights ring_of is_ring ring fitting _law_round_right law : Addr × FuncData)
structure Txt (K : PySem.W.Frag) (mg : Str → Option Value) (P : Program) (C : Cl) (A : Ad) : Prop where
  z_abs : mg "abs" = none
  z_all : mg "all" = none
  z_bool : mg "bool" = none
  z_divmod : mg "divmod" = none
  z_enumerate : mg "enumerate" = none
  z_int : mg "int" = none
  z_isinstance : mg "isinstance" = none
  z_len : mg "len" = none
  z_list : mg "list" = none
  z_max : mg "max" = none
  z_min : mg "min" = none
  z_range : mg "range" = none
  z_set : mg "set" = none
  z_sorted : mg "sorted" = none
  z_super : mg "super" = none
  z_tuple : mg "tuple" = none
  c_ALIKE : ∃ t, mg "ALIKE" = some (.str "alike" t)
  c_CLASH : ∃ t, mg "CLASH" = some (.str "clash" t)
  c_FREE : ∃ t, mg "FREE" = some (.str "free" t)
  c_GREATEST_HALF : ∃ t, mg "GREATEST_HALF" = some (.int 1000 t)
  c_MOST_LOOKS : ∃ t, mg "MOST_LOOKS" = some (.int 6 t)
  c_UNLIKE : ∃ t, mg "UNLIKE" = some (.str "unlike" t)
  xa_BadLook : ExaTxt P K mg "BadLook" C.BadLook "at"
  cls_Net : ClsT K mg "Net" C.Net
  na_Net_n_ahead : NoAttr K C.Net "n_ahead"
  na_Net_n_heads : NoAttr K C.Net "n_heads"
  na_Net_n_looks : NoAttr K C.Net "n_looks"
  na_Net_n_signs : NoAttr K C.Net "n_signs"
  is_integer : DefT K mg "is_integer" s_is_integer ["thing"] A.is_integer.1 A.is_integer.2
  divisor : DefT K mg "divisor" s_divisor ["one", "other"] A.divisor.1 A.divisor.2
  Net_way : MethT K C.Net "way" "Net.way" s_Net_way ["self", "at"] A.Net_way.1 A.Net_way.2
  Net_classes : MethT K C.Net "classes" "Net.classes" s_Net_classes ["self"] A.Net_classes.1 A.Net_classes.2
  _law_begin : DefT K mg "_law_begin" s__law_begin ["_law_script"] A._law_begin.1 A._law_begin.2
  _law_take : DefT K mg "_law_take" s__law_take ["_law_draw", "_law_size"] A._law_take.1 A._law_take.2
  _law_fraction : DefT K mg "_law_fraction" s__law_fraction ["_law_top", "_law_bottom"] A._law_fraction.1 A._law_fraction.2
  _law_lcm : DefT K mg "_law_lcm" s__law_lcm ["_law_numbers"] A._law_lcm.1 A._law_lcm.2
  _law_gcd : DefT K mg "_law_gcd" s__law_gcd ["_law_one", "_law_other"] A._law_gcd.1 A._law_gcd.2
  _law_turned : DefT K mg "_law_turned" s__law_turned ["_law_look", "_law_steps"] A._law_turned.1 A._law_turned.2
  is_between : DefT K mg "is_between" s_is_between ["thing", "low", "high"] A.is_between.1 A.is_between.2
  bond : DefT K mg "bond" s_bond ["one", "other"] A.bond.1 A.bond.2
  _law_pick : DefT K mg "_law_pick" s__law_pick ["_law_draw", "_law_some"] A._law_pick.1 A._law_pick.2
  _law_seen : DefT K mg "_law_seen" s__law_seen ["_law_half_here", "_law_one"] A._law_seen.1 A._law_seen.2
  _law_bond : DefT K mg "_law_bond" s__law_bond ["_law_one", "_law_other"] A._law_bond.1 A._law_bond.2
  is_half : DefT K mg "is_half" s_is_half ["thing"] A.is_half.1 A.is_half.2
  clashing_pair : DefT K mg "clashing_pair" s_clashing_pair ["looks"] A.clashing_pair.1 A.clashing_pair.2
  Net_go_through : MethT K C.Net "go_through" "Net.go_through" s_Net_go_through ["self", "first"] A.Net_go_through.1 A.Net_go_through.2
  Net_odd_ring : MethT K C.Net "odd_ring" "Net.odd_ring" s_Net_odd_ring ["self"] A.Net_odd_ring.1 A.Net_odd_ring.2
  _law_half : DefT K mg "_law_half" s__law_half ["_law_draw"] A._law_half.1 A._law_half.2
  _law_fit : DefT K mg "_law_fit" s__law_fit ["_law_sights_here", "_law_number"] A._law_fit.1 A._law_fit.2
  _law_is_ring : DefT K mg "_law_is_ring" s__law_is_ring ["_law_sights_here", "_law_some"] A._law_is_ring.1 A._law_is_ring.2
  is_look : DefT K mg "is_look" s_is_look ["thing"] A.is_look.1 A.is_look.2
  Net___init__ : MethT K C.Net "__init__" "Net.__init__" s_Net___init__ ["self", "looks"] A.Net___init__.1 A.Net___init__.2
  _law_halves : DefT K mg "_law_halves" s__law_halves ["_law_draw", "_law_many", "_law_most"] A._law_halves.1 A._law_halves.2
  need_looks : DefT K mg "need_looks" s_need_looks ["looks"] A.need_looks.1 A.need_looks.2
  _law_sights : DefT K mg "_law_sights" s__law_sights ["_law_draw", "_law_most"] A._law_sights.1 A._law_sights.2
  ring_of : DefT K mg "ring_of" s_ring_of ["looks"] A.ring_of.1 A.ring_of.2
  is_ring : DefT K mg "is_ring" s_is_ring ["looks", "thing"] A.is_ring.1 A.is_ring.2
  ring : DefT K mg "ring" s_ring ["looks"] A.ring.1 A.ring.2
  fitting : DefT K mg "fitting" s_fitting ["looks"] A.fitting.1 A.fitting.2
  _law_round_right : DefT K mg "_law_round_right" s__law_round_right ["_law_draw"] A._law_round_right.1 A._law_round_right.2
  law : DefT K mg "law" s_law ["_law_script"] A.law.1 A.law.2
section
variable {P : Program} {w : World} {K : PySem.W.Frag} {mg : Str → Option Value} {base : Heap} {C : Cl} {A : Ad}
theorem ok_is_integer (T : Txt K mg P C A) : FnG P w K mg base 1 A.is_integer.1 A.is_integer.2 ["thing"] (toSp K 1 (sp_is_integer C)) :=
  Fun.pok T.is_integer.f sc_is_integer rfl (sh_is_integer C) fun cdv A' outer s H E hr hG =>
    (dss_one (ds_ret (de_and (de_isi "int" (by decide) rfl T.z_isinstance rfl T.z_int (by decide +kernel) (do_of (dv 0))) (de_bone (de_not (de_isi "bool" (by decide) rfl T.z_isinstance rfl T.z_bool (by decide +kernel) (do_of (dv 0))))))))
theorem ok_divisor (T : Txt K mg P C A) : FnG P w K mg base 1 A.divisor.1 A.divisor.2 ["one", "other"] (toSp K 2 (sp_divisor C)) :=
  Fun.pok T.divisor.f sc_divisor rfl (sh_divisor C) fun cdv A' outer s H E hr hG =>
    (dss_cons (ds_while (passes_of rfl) (dt_gt (do_of (dv 1)) (do_of de_int)) (dss_one (ds_par 0 1 rfl sc_divisor.nd (da_cons (dv 1) (da_cons (de_mod (do_of (dv 0)) (do_of (dv 1))) da_nil)))))
      (dss_one (ds_ret (dv 0))))
theorem ok_Net_way (T : Txt K mg P C A) : FnG P w K mg base 1 A.Net_way.1 A.Net_way.2 ["self", "at"] (toSp K 2 (sp_Net_way C)) :=
  Fun.pok T.Net_way.f sc_Net_way rfl (sh_Net_way C) fun cdv A' outer s H E hr hG =>
    (dss_cons (ds_setO 2 sc_Net_way.nd (dl_lst (da_cons (dv 1) da_nil)))
      (dss_cons (ds_while (passes_of rfl) (dt_isnot (do_of (de_getDk (hu9 hr) (de_fld T.cls_Net.cl T.na_Net_n_ahead (dv 0)) (de_ix (dn 2) (do_of (de_neg (do_of de_int)))))) (do_of de_non)) (dss_one (ds_app 2 (de_getDk (hu9 hr) (de_fld T.cls_Net.cl T.na_Net_n_ahead (dv 0)) (de_ix (dn 2) (do_of (de_neg (do_of de_int))))))))
      (dss_one (ds_frz 2 (ds_ret (dv 2))))))
theorem ok_Net_classes (T : Txt K mg P C A) : FnG P w K mg base 1 A.Net_classes.1 A.Net_classes.2 ["self"] (toSp K 1 (sp_Net_classes C)) :=
  Fun.pok T.Net_classes.f sc_Net_classes rfl (sh_Net_classes C) fun cdv A' outer s H E hr hG =>
    (dss_cons (ds_setO 1 sc_Net_classes.nd (dl_lst da_nil))
      (dss_cons (ds_for (passes_of rfl) rfl (di_r1 rfl T.z_range (de_len rfl T.z_len (do_of (de_fld T.cls_Net.cl T.na_Net_n_looks (dv 0))))) (dg_nm 2 sc_Net_classes.nd) (dss_cons (ds_asg (de_ix (do_of (de_fld T.cls_Net.cl T.na_Net_n_looks (dv 0))) (do_of (dv 2))) (dg_tup rfl (dgs_cons (dg_nm 3 sc_Net_classes.nd) (dgs_cons (dg_nm 4 sc_Net_classes.nd) dgs_nil))))
      (dss_one (ds_if (DW.dt (dw_and (dt_eq hr.units (do_of (de_getDk (hu9 hr) (de_fld T.cls_Net.cl T.na_Net_n_heads (dv 0)) (dv 2))) (do_of (dv 2))) (dw_and1 (dt_ch op_lt op_lt (do_of de_int) (do_of (dv 4)) (do_of (dv 3)))))) (dss_one (ds_app 1 (dv 2))) dss_nil))))
      (dss_one (ds_frz 1 (ds_ret (dv 1))))))
theorem ok__law_begin (T : Txt K mg P C A) : FnG P w K mg base 1 A._law_begin.1 A._law_begin.2 ["_law_script"] (toSp K 1 sp_begin) :=
  Fun.pok T._law_begin.f sc__law_begin rfl sh_begin fun cdv A' outer s H E hr hG =>
    (dss_cons (ds_setCO 1 rfl sc__law_begin.nd (sw_true rfl rfl rfl (by decide +kernel)) (own := [("_law_cell", 2)]) (di_list (dv 0)) (blkOk_by rfl) (fun _ _ _ _ _ => (dg_nm 2 sc__law_begin.nd)) (fun _ _ _ _ _ => (dts_one (dt_ge (do_of (de_abs rfl T.z_abs (do_of (dv 2)))) (do_of (de_pow (do_of de_int) (do_of de_int)))))) (fun _ _ _ _ _ => (de_abs rfl T.z_abs (do_of (dv 2))))) (dss_one (ds_retDraw (X := cxOf (L2.CX P w) P w K mg base ["_law_script", "_law_large", "_law_cell"] "_law_begin" (defScope s__law_begin) _ cdv A' outer s H E) rfl rfl (Or.inl rfl) (Or.inl rfl) (by decide) (by decide) (by decide) (by decide) rfl T.z_list)))
theorem ok__law_take (T : Txt K mg P C A) : FnG P w K mg base 1 A._law_take.1 A._law_take.2 ["_law_draw", "_law_size"] (toSp K 2 sp_take) :=
  Fun.gok T._law_take.f sc__law_take (fun vs H Q E h => toSp_len h) fun cdv A' outer s H vs Q E hr hG h => ⟨rdTake K,
    (pss_cons (ps_if (L2.PW.pt (pw_and (pt_cmpR op_eq (dg0 hr "rest") pe_int (nomark _)) (pw_and1 (pt_cmpR (op_neD hr.units) (dg0 hr "large") (pe_lst pa_nil) (nomark _)))))
      (pss_one (ps_dput (hu_of hr) (pv 0) pe_str (pe_bm PySem.F.plainAttrs_list PySem.F.slot_list_pop PySem.F.type_list_pop mt_popAt (dg0 hr "large") (pa_cons pe_int pa_nil)) rfl))
      (pss_one (ps_if (pt_cmpR op_eq (dg0 hr "rest") pe_int (nomark _))
        (pss_cons (ps_dput (hu_of hr) (pv 0) pe_str (pe_op op_add (dg0 hr "turn") pe_int) rfl)
        (pss_cons (ps_for (passes_of rfl) rfl (pi_list (pe_op op_cat (pe_lst (pa_cons (dg0 hr "turn") pa_nil)) (dg0 hr "cells"))) (pg_name (i := 2) sc__law_take.nd rfl (Or.inl rfl))
          (pss_one (ps_dput (hu_of hr) (pv 0) pe_str (pe_op op_mod (pe_callTy call_int1 rfl T.z_int (by decide +kernel) (pa_cons (pe_op op_add (pe_op op_add (pe_op op_mul (dg0 hr "mix") pe_int) (pe_op op_mul (pv 2) pe_int)) pe_int) pa_nil) (by decide) (by decide)) pe_int) rfl)))
        (pss_one (ps_dput (hu_of hr) (pv 0) pe_str (pe_op op_mod (pe_callTy call_int1 rfl T.z_int (by decide +kernel) (pa_cons (pe_op op_pow (dg0 hr "mix") pe_int) pa_nil) (by decide) (by decide)) pe_int) rfl))))
        pss_nil)))
    (pss_cons (ps_asg (pe_callB call_divmodW rfl T.z_divmod (by decide +kernel) (pa_cons (dg0 hr "rest") (pa_cons (pv 1) pa_nil)) (by decide) (by decide)) (pg_tup rfl (pgs_cons (pg_sub (pv 0) pe_str (set_dict (hu_of hr))) (pgs_cons (pg_name (i := 3) sc__law_take.nd rfl (Or.inl rfl)) pgs_nil))))
    (pss_one (ps_ret (pv 3))))), take_run rfl h⟩
theorem ok__law_fraction (T : Txt K mg P C A) : FnG P w K mg base 1 A._law_fraction.1 A._law_fraction.2 ["_law_top", "_law_bottom"] (toSp K 2 sp_frac2) :=
  Fun.pok T._law_fraction.f sc__law_fraction rfl sh_frac2 fun cdv A' outer s H E hr hG =>
    (dss_cons (ds_par 2 3 rfl sc__law_fraction.nd (da_cons (dv 0) (da_cons (dv 1) da_nil)))
      (dss_cons (ds_while (passes_of rfl) (dt_gt (do_of (dv 3)) (do_of de_int)) (dss_one (ds_par 2 3 rfl sc__law_fraction.nd (da_cons (dv 3) (da_cons (de_mod (do_of (dv 2)) (do_of (dv 3))) da_nil)))))
      (dss_one (ds_ret (de_tup (da_cons (de_div (do_of (dv 0)) (do_of (dv 2))) (da_cons (de_div (do_of (dv 1)) (do_of (dv 2))) da_nil)))))))
theorem ok__law_lcm (T : Txt K mg P C A) : FnG P w K mg base 1 A._law_lcm.1 A._law_lcm.2 ["_law_numbers"] (toSp K 1 (sp__law_lcm C)) :=
  Fun.pok T._law_lcm.f sc__law_lcm rfl (sh__law_lcm C) fun cdv A' outer s H E hr hG =>
    (dss_cons (ds_set 1 sc__law_lcm.nd de_int)
      (dss_cons (ds_for (passes_of rfl) rfl (di_any (dv 0)) (dg_nm 2 sc__law_lcm.nd) (dss_cons (ds_par 3 4 rfl sc__law_lcm.nd (da_cons (dv 1) (da_cons (dv 2) da_nil)))
      (dss_cons (ds_while (passes_of rfl) (dt_gt (do_of (dv 4)) (do_of de_int)) (dss_one (ds_par 3 4 rfl sc__law_lcm.nd (da_cons (dv 4) (da_cons (de_mod (do_of (dv 3)) (do_of (dv 4))) da_nil)))))
      (dss_one (ds_set 1 sc__law_lcm.nd (de_mul (do_of (de_div (do_of (dv 1)) (do_of (dv 3)))) (do_of (dv 2))))))))
      (dss_one (ds_ret (dv 1)))))
theorem ok__law_gcd (T : Txt K mg P C A) : FnG P w K mg base 1 A._law_gcd.1 A._law_gcd.2 ["_law_one", "_law_other"] (toSp K 2 (sp__law_gcd C)) :=
  Fun.pok T._law_gcd.f sc__law_gcd rfl (sh__law_gcd C) fun cdv A' outer s H E hr hG =>
    (dss_cons (ds_while (passes_of rfl) (dt_gt (do_of (dv 1)) (do_of de_int)) (dss_one (ds_par 0 1 rfl sc__law_gcd.nd (da_cons (dv 1) (da_cons (de_mod (do_of (dv 0)) (do_of (dv 1))) da_nil)))))
      (dss_one (ds_ret (dv 0))))
theorem ok__law_turned (T : Txt K mg P C A) : FnG P w K mg base 1 A._law_turned.1 A._law_turned.2 ["_law_look", "_law_steps"] (toSp K 2 (sp__law_turned C)) :=
  Fun.pok T._law_turned.f sc__law_turned rfl (sh__law_turned C) fun cdv A' outer s H E hr hG =>
    (dss_cons (ds_asg (dv 0) (dg_tup rfl (dgs_cons (dg_nm 2 sc__law_turned.nd) (dgs_cons (dg_nm 3 sc__law_turned.nd) dgs_nil))))
      (dss_cons (ds_for (passes_of rfl) rfl (di_r1 rfl T.z_range (de_add (do_of (dv 2)) (do_of de_int))) (dg_nm 4 sc__law_turned.nd) (dss_cons (ds_set 5 sc__law_turned.nd (de_add (do_of (de_l (dl_comp rfl sc__law_turned.nd (own := [("_law_step", 6)]) (di_any (dv 1)) (blkOk_by rfl) (fun _ _ _ _ _ => (dg_nm 6 sc__law_turned.nd)) (fun _ _ _ _ _ => dts_nil) (fun _ _ _ _ _ => (de_eq hr.units (do_of (de_mod (do_of (de_sub (do_of (dv 4)) (do_of (dv 3)))) (do_of (dv 6)))) (do_of de_int)))))) (do_of (de_l (dl_comp rfl sc__law_turned.nd (own := [("_law_step", 6)]) (di_any (dv 1)) (blkOk_by rfl) (fun _ _ _ _ _ => (dg_nm 6 sc__law_turned.nd)) (fun _ _ _ _ _ => dts_nil) (fun _ _ _ _ _ => (de_eq hr.units (do_of (de_mod (do_of (de_add (do_of (dv 4)) (do_of (dv 3)))) (do_of (dv 6)))) (do_of de_int))))))))
      (dss_one (ds_if (DW.dt (dw_or (DW.dt (dw_and (dt_val (de_ix (do_of (dv 5)) (do_of de_int))) (dw_and1 (dt_val (de_ix (do_of (dv 5)) (do_of de_int)))))) (dw_or1 (DW.dt (dw_and (dt_val (de_ix (do_of (dv 5)) (do_of de_int))) (dw_and1 (dt_val (de_ix (do_of (dv 5)) (do_of de_int))))))))) (dss_one (ds_ret (de_tup (da_cons (dv 2) (da_cons (dv 4) da_nil))))) dss_nil))))
      (dss_one (ds_ret (dv 0)))))
theorem ok_is_between (T : Txt K mg P C A) : FnG P w K mg base 2 A.is_between.1 A.is_between.2 ["thing", "low", "high"] (toSp K 3 (sp_is_between C)) :=
  Fun.pok T.is_between.f sc_is_between rfl (sh_is_between C) fun cdv A' outer s H E hr hG =>
    (dss_one (ds_ret (de_and (de_call (ok_is_integer T) rfl (fun _ _ _ _ h => ar1_len h) (hr.mono (by decide)) hG rfl T.is_integer.g T.is_integer.f.kp T.is_integer.b (takes_of rfl rfl rfl rfl) (da_cons (dv 0) da_nil)) (de_bone (de_ch op_le op_le (do_of (dv 1)) (do_of (dv 0)) (do_of (dv 2)))))))
theorem ok_bond (T : Txt K mg P C A) : FnG P w K mg base 2 A.bond.1 A.bond.2 ["one", "other"] (toSp K 2 (sp_bond C)) :=
  Fun.pok T.bond.f sc_bond rfl (sh_bond C) fun cdv A' outer s H E hr hG =>
    (dss_cons (ds_set 2 sc_bond.nd (de_mul (do_of de_int) (do_of (de_call (ok_divisor T) rfl (fun _ _ _ _ h => ar2_len h) (hr.mono (by decide)) hG rfl T.divisor.g T.divisor.f.kp T.divisor.b (takes_of rfl rfl rfl rfl) (da_cons (de_ix (do_of (dv 0)) (do_of de_int)) (da_cons (de_ix (do_of (dv 1)) (do_of de_int)) da_nil))))))
      (dss_cons (ds_par 3 4 rfl sc_bond.nd (da_cons (de_eq hr.units (do_of (de_mod (do_of (de_sub (do_of (de_ix (do_of (dv 0)) (do_of de_int))) (do_of (de_ix (do_of (dv 1)) (do_of de_int))))) (do_of (dv 2)))) (do_of de_int)) (da_cons (de_eq hr.units (do_of (de_mod (do_of (de_add (do_of (de_ix (do_of (dv 0)) (do_of de_int))) (do_of (de_ix (do_of (dv 1)) (do_of de_int))))) (do_of (dv 2)))) (do_of de_int)) da_nil)))
      (dss_cons (ds_if (dt_val (dv 3)) (dss_one (ds_ret (de_ife (dt_val (dv 4)) (de_gstrE rfl T.c_FREE) (de_gstrE rfl T.c_ALIKE)))) dss_nil)
      (dss_one (ds_ret (de_ife (dt_val (dv 4)) (de_gstrE rfl T.c_UNLIKE) (de_gstrE rfl T.c_CLASH)))))))
theorem ok__law_pick (T : Txt K mg P C A) : FnG P w K mg base 2 A._law_pick.1 A._law_pick.2 ["_law_draw", "_law_some"] (toSp K 2 sp_pick) :=
  Fun.pok T._law_pick.f sc__law_pick rfl sh_pick fun cdv A' outer s H E hr hG =>
    (dss_one (ds_ret (de_ix (do_of (dv 1)) (do_of (de_call (ok__law_take T) rfl (fun _ _ _ _ h => ar2_len h) (hr.mono (by decide)) hG rfl T._law_take.g T._law_take.f.kp T._law_take.b (takes_of rfl rfl rfl rfl) (da_cons (dv 0) (da_cons (de_len rfl T.z_len (do_of (dv 1))) da_nil)))))))
theorem ok__law_seen (T : Txt K mg P C A) : FnG P w K mg base 2 A._law_seen.1 A._law_seen.2 ["_law_half_here", "_law_one"] (toSp K 2 (sp__law_seen C)) :=
  Fun.pok T._law_seen.f sc__law_seen rfl (sh__law_seen C) fun cdv A' outer s H E hr hG =>
    (dss_cons (ds_asg (dv 1) (dg_tup rfl (dgs_cons (dg_nm 2 sc__law_seen.nd) (dgs_cons (dg_nm 3 sc__law_seen.nd) dgs_nil))))
      (dss_cons (ds_set 4 sc__law_seen.nd (de_mul (do_of (de_mul (do_of (de_mul (do_of (de_div (do_of (dv 2)) (do_of (de_mul (do_of (de_mul (do_of de_int) (do_of (dv 0)))) (do_of (dv 3)))))) (do_of de_int))) (do_of (dv 0)))) (do_of (dv 3))))
      (dss_cons (ds_set 5 sc__law_seen.nd (de_min2 rfl rfl T.z_min (do_of (de_sub (do_of (dv 2)) (do_of (dv 4)))) (do_of (de_sub (do_of (de_add (do_of (dv 4)) (do_of (de_mul (do_of (de_mul (do_of de_int) (do_of (dv 0)))) (do_of (dv 3)))))) (do_of (dv 2))))))
      (dss_one (ds_ret (de_call (ok__law_fraction T) rfl (fun _ _ _ _ h => ar2_len h) (hr.mono (by decide)) hG rfl T._law_fraction.g T._law_fraction.f.kp T._law_fraction.b (takes_of rfl rfl rfl rfl) (da_cons (dv 5) (da_cons (dv 3) da_nil))))))))
theorem ok__law_bond (T : Txt K mg P C A) : FnG P w K mg base 2 A._law_bond.1 A._law_bond.2 ["_law_one", "_law_other"] (toSp K 2 (sp__law_bond C)) :=
  Fun.pok T._law_bond.f sc__law_bond rfl (sh__law_bond C) fun cdv A' outer s H E hr hG =>
    (dss_cons (ds_set 2 sc__law_bond.nd (de_mul (do_of de_int) (do_of (de_call (ok__law_gcd T) rfl (fun _ _ _ _ h => ar2_len h) (hr.mono (by decide)) hG rfl T._law_gcd.g T._law_gcd.f.kp T._law_gcd.b (takes_of rfl rfl rfl rfl) (da_cons (de_ix (do_of (dv 0)) (do_of de_int)) (da_cons (de_ix (do_of (dv 1)) (do_of de_int)) da_nil))))))
      (dss_one (ds_ret (de_tup (da_cons (de_eq hr.units (do_of (de_mod (do_of (de_sub (do_of (de_ix (do_of (dv 0)) (do_of de_int))) (do_of (de_ix (do_of (dv 1)) (do_of de_int))))) (do_of (dv 2)))) (do_of de_int)) (da_cons (de_eq hr.units (do_of (de_mod (do_of (de_add (do_of (de_ix (do_of (dv 0)) (do_of de_int))) (do_of (de_ix (do_of (dv 1)) (do_of de_int))))) (do_of (dv 2)))) (do_of de_int)) da_nil))))))
theorem ok_is_half (T : Txt K mg P C A) : FnG P w K mg base 3 A.is_half.1 A.is_half.2 ["thing"] (toSp K 1 (sp_is_half C)) :=
  Fun.pok T.is_half.f sc_is_half rfl (sh_is_half C) fun cdv A' outer s H E hr hG =>
    (dss_one (ds_ret (de_call (ok_is_between T) rfl (fun _ _ _ _ h => ar3_len h) (hr.mono (by decide)) hG rfl T.is_between.g T.is_between.f.kp T.is_between.b (takes_of rfl rfl rfl rfl) (da_cons (dv 0) (da_cons de_int (da_cons (de_gintE rfl T.c_GREATEST_HALF) da_nil))))))
theorem ok_clashing_pair (T : Txt K mg P C A) : FnG P w K mg base 3 A.clashing_pair.1 A.clashing_pair.2 ["looks"] (toSpN K 1 (spN_clashing_pair C)) :=
  Fun.pokN T.clashing_pair.f sc_clashing_pair rfl (shN_clashing_pair C) fun cdv A' outer s H E hr hG =>
    (dss_cons (ds_for (passes_of rfl) rfl (di_r1 rfl T.z_range (de_len rfl T.z_len (do_of (dv 0)))) (dg_nm 1 sc_clashing_pair.nd) (dss_one (ds_for (passes_of rfl) rfl (di_r1 rfl T.z_range (dv 1)) (dg_nm 2 sc_clashing_pair.nd) (dss_one (ds_if (dt_eq hr.units (do_of (de_call (ok_bond T) rfl (fun _ _ _ _ h => ar2_len h) (hr.mono (by decide)) hG rfl T.bond.g T.bond.f.kp T.bond.b (takes_of rfl rfl rfl rfl) (da_cons (de_ix (do_of (dv 0)) (do_of (dv 2))) (da_cons (de_ix (do_of (dv 0)) (do_of (dv 1))) da_nil)))) (do_of (de_gstrE rfl T.c_CLASH))) (dss_one (ds_retNw (dn_new (dl_lst (da_cons (dv 2) (da_cons (dv 1) da_nil)))))) dss_nil)))))
      (dss_one (ds_retNw (dn_val de_non))))
theorem ok_Net_go_through (T : Txt K mg P C A) : FnG P w K mg base 3 A.Net_go_through.1 A.Net_go_through.2 ["self", "first"] (toSp K 2 (sp_Net_go_through C)) :=
  Fun.pok T.Net_go_through.f sc_Net_go_through rfl (sh_Net_go_through C) fun cdv A' outer s H E hr hG =>
    (dss_cons (ds_put3Dk (hu9 hr) rfl de_int (dv 1) de_non (de_fld T.cls_Net.cl T.na_Net_n_signs (dv 0)) (dv 1) (de_fld T.cls_Net.cl T.na_Net_n_heads (dv 0)) (dv 1) (de_fld T.cls_Net.cl T.na_Net_n_ahead (dv 0)) (dv 1))
      (dss_cons (ds_parF2L 2 3 rfl sc_Net_go_through.nd (dl_lst (da_cons (dv 1) da_nil)) de_int)
      (dss_one (ds_while (passes_of rfl) (dt_lt (do_of (dv 3)) (do_of (de_len rfl T.z_len (dn 2)))) (dss_cons (ds_for (passes_of rfl) rfl (di_r1 rfl T.z_range (de_len rfl T.z_len (do_of (de_fld T.cls_Net.cl T.na_Net_n_looks (dv 0))))) (dg_nm 4 sc_Net_go_through.nd) (dss_cons (ds_set 5 sc_Net_go_through.nd (de_call (ok_bond T) rfl (fun _ _ _ _ h => ar2_len h) (hr.mono (by decide)) hG rfl T.bond.g T.bond.f.kp T.bond.b (takes_of rfl rfl rfl rfl) (da_cons (de_ix (do_of (de_fld T.cls_Net.cl T.na_Net_n_looks (dv 0))) (do_of (de_ix (dn 2) (do_of (dv 3))))) (da_cons (de_ix (do_of (de_fld T.cls_Net.cl T.na_Net_n_looks (dv 0))) (do_of (dv 4))) da_nil))))
      (dss_one (ds_if (DW.dt (dw_and (dt_inF (do_of (dv 5)) (do_of (de_tup (da_cons (de_gstrE rfl T.c_ALIKE) (da_cons (de_gstrE rfl T.c_UNLIKE) da_nil))))) (dw_and1 (dt_notinDk (hu9 hr) (dv 4) (de_fld T.cls_Net.cl T.na_Net_n_signs (dv 0)))))) (dss_cons (ds_putDk (hu9 hr) (de_mul (do_of (de_getDk (hu9 hr) (de_fld T.cls_Net.cl T.na_Net_n_signs (dv 0)) (de_ix (dn 2) (do_of (dv 3))))) (do_of (de_ife (dt_eq hr.units (do_of (dv 5)) (do_of (de_gstrE rfl T.c_ALIKE))) de_int (de_neg (do_of de_int))))) (de_fld T.cls_Net.cl T.na_Net_n_signs (dv 0)) (dv 4))
      (dss_cons (ds_put2Dk (hu9 hr) rfl (dv 1) (de_ix (dn 2) (do_of (dv 3))) (de_fld T.cls_Net.cl T.na_Net_n_heads (dv 0)) (dv 4) (de_fld T.cls_Net.cl T.na_Net_n_ahead (dv 0)) (dv 4))
      (dss_one (ds_app 2 (dv 4))))) dss_nil))))
      (dss_one (ds_aug 3 sc_Net_go_through.nd de_int)))))))
theorem ok_Net_odd_ring (T : Txt K mg P C A) : FnG P w K mg base 3 A.Net_odd_ring.1 A.Net_odd_ring.2 ["self"] (toSpN K 1 (spN_odd C)) :=
  Fun.pokN T.Net_odd_ring.f sc_Net_odd_ring rfl (shN_odd C) fun cdv A' outer s H E hr hG =>
    (dss_cons (ds_for (passes_of rfl) rfl (di_r1 rfl T.z_range (de_len rfl T.z_len (do_of (de_fld T.cls_Net.cl T.na_Net_n_looks (dv 0))))) (dg_nm 1 sc_Net_odd_ring.nd) (dss_one (ds_for (passes_of rfl) rfl (di_r1 rfl T.z_range (dv 1)) (dg_nm 2 sc_Net_odd_ring.nd) (dss_cons (ds_set 3 sc_Net_odd_ring.nd (de_call (ok_bond T) rfl (fun _ _ _ _ h => ar2_len h) (hr.mono (by decide)) hG rfl T.bond.g T.bond.f.kp T.bond.b (takes_of rfl rfl rfl rfl) (da_cons (de_ix (do_of (de_fld T.cls_Net.cl T.na_Net_n_looks (dv 0))) (do_of (dv 2))) (da_cons (de_ix (do_of (de_fld T.cls_Net.cl T.na_Net_n_looks (dv 0))) (do_of (dv 1))) da_nil))))
      (dss_cons (ds_set 4 sc_Net_odd_ring.nd (de_eq hr.units (do_of (de_getDk (hu9 hr) (de_fld T.cls_Net.cl T.na_Net_n_signs (dv 0)) (dv 2))) (do_of (de_getDk (hu9 hr) (de_fld T.cls_Net.cl T.na_Net_n_signs (dv 0)) (dv 1)))))
      (dss_one (ds_if (DW.dt (dw_and (dt_inF (do_of (dv 3)) (do_of (de_tup (da_cons (de_gstrE rfl T.c_ALIKE) (da_cons (de_gstrE rfl T.c_UNLIKE) da_nil))))) (dw_and1 (dt_ne hr.units (do_of (de_eq hr.units (do_of (dv 3)) (do_of (de_gstrE rfl T.c_ALIKE)))) (do_of (dv 4)))))) (dss_cons (ds_asg (de_tup (da_cons (de_meth T.cls_Net.cl T.Net_way.meth (ok_Net_way T) (fun _ _ _ _ h => ar2_len h) (hr.mono (by decide)) hG T.Net_way.b (takes_of rfl rfl rfl rfl) (dv 0) (da_cons (dv 2) da_nil)) (da_cons (de_meth T.cls_Net.cl T.Net_way.meth (ok_Net_way T) (fun _ _ _ _ h => ar2_len h) (hr.mono (by decide)) hG T.Net_way.b (takes_of rfl rfl rfl rfl) (dv 0) (da_cons (dv 1) da_nil)) da_nil))) (dg_tup rfl (dgs_cons (dg_nm 5 sc_Net_odd_ring.nd) (dgs_cons (dg_nm 6 sc_Net_odd_ring.nd) dgs_nil))))
      (dss_cons (ds_set 7 sc_Net_odd_ring.nd (de_ix (do_of (de_l (dl_comp rfl sc_Net_odd_ring.nd (own := [("one", 8)]) (di_any (dv 5)) (blkOk_by rfl) (fun _ _ _ _ _ => (dg_nm 8 sc_Net_odd_ring.nd)) (fun _ _ _ _ _ => (dts_one (dt_inI (do_of (dv 8)) (do_of (dv 6))))) (fun _ _ _ _ _ => (dv 8))))) (do_of de_int)))
      (dss_one (ds_retNw (dn_new (dl_cat (do_of (de_sl (do_of (dv 5)) dp_no (dp_pt (de_add (do_of (de_idxI (do_of (dv 5)) (do_of (dv 7)))) (do_of de_int))))) (do_of (de_l (dl_rev (do_of (de_sl (do_of (dv 6)) dp_no (dp_pt (de_idxI (do_of (dv 6)) (do_of (dv 7))))))))))))))) dss_nil)))))))
      (dss_one (ds_retNw (dn_val de_non))))
theorem ok__law_half (T : Txt K mg P C A) : FnG P w K mg base 3 A._law_half.1 A._law_half.2 ["_law_draw"] (toSp K 1 (sp__law_half C)) :=
  Fun.pok T._law_half.f sc__law_half rfl (sh__law_half C) fun cdv A' outer s H E hr hG =>
    (dss_cons (ds_set 1 sc__law_half.nd (de_l (dl_lst (da_cons (de_add (do_of de_int) (do_of (de_call (ok__law_take T) rfl (fun _ _ _ _ h => ar2_len h) (hr.mono (by decide)) hG rfl T._law_take.g T._law_take.f.kp T._law_take.b (takes_of rfl rfl rfl rfl) (da_cons (dv 0) (da_cons de_int da_nil))))) (da_cons (de_add (do_of de_int) (do_of (de_call (ok__law_take T) rfl (fun _ _ _ _ h => ar2_len h) (hr.mono (by decide)) hG rfl T._law_take.g T._law_take.f.kp T._law_take.b (takes_of rfl rfl rfl rfl) (da_cons (dv 0) (da_cons de_int da_nil))))) (da_cons (de_call (ok__law_pick T) rfl (fun _ _ _ _ h => ar2_len h) (hr.mono (by decide)) hG rfl T._law_pick.g T._law_pick.f.kp T._law_pick.b (takes_of rfl rfl rfl rfl) (da_cons (dv 0) (da_cons (de_l (dl_lst (da_cons de_int (da_cons de_int (da_cons de_int (da_cons de_int (da_cons de_int (da_cons de_int (da_cons de_int (da_cons de_int da_nil)))))))))) da_nil))) da_nil))))))
      (dss_one (ds_ret (de_call (ok__law_pick T) rfl (fun _ _ _ _ h => ar2_len h) (hr.mono (by decide)) hG rfl T._law_pick.g T._law_pick.f.kp T._law_pick.b (takes_of rfl rfl rfl rfl) (da_cons (dv 0) (da_cons (de_add (do_of (dv 1)) (do_of (de_l (dl_lst (da_cons (de_add (do_of de_int) (do_of (de_call (ok__law_take T) rfl (fun _ _ _ _ h => ar2_len h) (hr.mono (by decide)) hG rfl T._law_take.g T._law_take.f.kp T._law_take.b (takes_of rfl rfl rfl rfl) (da_cons (dv 0) (da_cons de_int da_nil))))) da_nil))))) da_nil))))))
theorem ok__law_fit (T : Txt K mg P C A) : FnG P w K mg base 3 A._law_fit.1 A._law_fit.2 ["_law_sights_here", "_law_number"] (toSp K 2 (sp__law_fit C)) :=
  Fun.pok T._law_fit.f sc__law_fit rfl (sh__law_fit C) fun cdv A' outer s H E hr hG =>
    (dss_one (ds_ret (de_eq hr.units (do_of (de_l (dl_comp rfl sc__law_fit.nd (own := [("_law_half_here", 2), ("_law_shown", 3)]) (di_any (dv 0)) (blkOk_by rfl) (fun _ _ _ _ _ => (dg_tup rfl (dgs_cons (dg_nm 2 sc__law_fit.nd) (dgs_cons (dg_nm 3 sc__law_fit.nd) dgs_nil)))) (fun _ _ _ _ _ => (dts_one (dt_ne hr.units (do_of (de_call (ok__law_seen T) rfl (fun _ _ _ _ h => ar2_len h) (hr.mono (by decide)) hG rfl T._law_seen.g T._law_seen.f.kp T._law_seen.b takes0 (da_cons (dv 2) (da_cons (de_tup (da_cons (dv 1) (da_cons de_int da_nil))) da_nil)))) (do_of (de_tup (da_cons (dv 3) (da_cons de_int da_nil))))))) (fun _ _ _ _ _ => (dv 2))))) (do_of (de_l (dl_lst da_nil))))))
theorem ok__law_is_ring (T : Txt K mg P C A) : FnG P w K mg base 3 A._law_is_ring.1 A._law_is_ring.2 ["_law_sights_here", "_law_some"] (toSp K 2 (sp__law_is_ring C)) :=
  Fun.pok T._law_is_ring.f sc__law_is_ring rfl (sh__law_is_ring C) fun cdv A' outer s H E hr hG =>
    (dss_cons (ds_if (DW.dt (dw_or (dt_lt (do_of (de_len rfl T.z_len (do_of (dv 1)))) (do_of de_int)) (dw_or1 (dt_ne hr.units (do_of (de_l (dl_sortSetL rfl rfl T.z_set rfl T.z_sorted (do_of (dv 1))))) (do_of (de_l (dl_sortI rfl T.z_sorted (do_of (dv 1))))))))) (dss_one (ds_ret de_bl)) dss_nil)
      (dss_cons (ds_if (dt_eq hr.units (do_of (de_len rfl T.z_len (do_of (dv 1)))) (do_of de_int)) (dss_one (ds_ret (de_eq hr.units (do_of (de_call (ok__law_bond T) rfl (fun _ _ _ _ h => ar2_len h) (hr.mono (by decide)) hG rfl T._law_bond.g T._law_bond.f.kp T._law_bond.b (takes_of rfl rfl rfl rfl) (da_cons (de_ix (do_of (dv 0)) (do_of (de_ix (do_of (dv 1)) (do_of de_int)))) (da_cons (de_ix (do_of (dv 0)) (do_of (de_ix (do_of (dv 1)) (do_of de_int)))) da_nil)))) (do_of (de_tup (da_cons de_bl (da_cons de_bl da_nil))))))) dss_nil)
      (dss_cons (ds_setC 2 rfl sc__law_is_ring.nd (sw_true rfl rfl rfl (by decide +kernel)) (own := [("_law_k", 3)]) (di_r1 rfl T.z_range (de_len rfl T.z_len (do_of (dv 1)))) (blkOk_by rfl) (fun _ _ _ _ _ => (dg_nm 3 sc__law_is_ring.nd)) (fun _ _ _ _ _ => dts_nil) (fun _ _ _ _ _ => (de_call (ok__law_bond T) rfl (fun _ _ _ _ h => ar2_len h) (hr.mono (by decide)) hG rfl T._law_bond.g T._law_bond.f.kp T._law_bond.b takes0 (da_cons (de_ix (do_of (dv 0)) (do_of (de_ix (do_of (dv 1)) (do_of (de_sub (do_of (dv 3)) (do_of de_int)))))) (da_cons (de_ix (do_of (dv 0)) (do_of (de_ix (do_of (dv 1)) (do_of (dv 3))))) da_nil)))))
      (dss_cons (ds_if (dt_ne hr.units (do_of (de_l (dl_comp rfl sc__law_is_ring.nd (own := [("_law_bond_here", 4)]) (di_any (dv 2)) (blkOk_by rfl) (fun _ _ _ _ _ => (dg_nm 4 sc__law_is_ring.nd)) (fun _ _ _ _ _ => (dts_one (dt_eq hr.units (do_of (de_ix (do_of (dv 4)) (do_of de_int))) (do_of (de_ix (do_of (dv 4)) (do_of de_int)))))) (fun _ _ _ _ _ => (dv 4))))) (do_of (de_l (dl_lst da_nil)))) (dss_one (ds_ret de_bl)) dss_nil)
      (dss_one (ds_ret (de_eq hr.units (do_of (de_mod (do_of (de_len rfl T.z_len (do_of (de_l (dl_comp rfl sc__law_is_ring.nd (own := [("_law_bond_here", 4)]) (di_any (dv 2)) (blkOk_by rfl) (fun _ _ _ _ _ => (dg_nm 4 sc__law_is_ring.nd)) (fun _ _ _ _ _ => (dts_one (dt_val (de_ix (do_of (dv 4)) (do_of de_int))))) (fun _ _ _ _ _ => (dv 4))))))) (do_of de_int))) (do_of de_int))))))))
theorem ok_is_look (T : Txt K mg P C A) : FnG P w K mg base 4 A.is_look.1 A.is_look.2 ["thing"] (toSp K 1 (sp_is_look C)) :=
  Fun.pok T.is_look.f sc_is_look rfl (sh_is_look C) fun cdv A' outer s H E hr hG =>
    (dss_cons (ds_if (DW.dt (dw_or (dt_not (dt_val (de_isi "tuple" (by decide) rfl T.z_isinstance rfl T.z_tuple (by decide +kernel) (do_of (dv 0))))) (dw_or (dt_ne hr.units (do_of (de_len rfl T.z_len (do_of (dv 0)))) (do_of de_int)) (dw_or1 (dt_not (dt_val (de_call (ok_is_half T) rfl (fun _ _ _ _ h => ar1_len h) (hr.mono (by decide)) hG rfl T.is_half.g T.is_half.f.kp T.is_half.b (takes_of rfl rfl rfl rfl) (da_cons (de_ix (do_of (dv 0)) (do_of de_int)) da_nil)))))))) (dss_one (ds_ret de_bl)) dss_nil)
      (dss_one (ds_ret (de_call (ok_is_between T) rfl (fun _ _ _ _ h => ar3_len h) (hr.mono (by decide)) hG rfl T.is_between.g T.is_between.f.kp T.is_between.b (takes_of rfl rfl rfl rfl) (da_cons (de_ix (do_of (dv 0)) (do_of de_int)) (da_cons de_int (da_cons (de_ix (do_of (dv 0)) (do_of de_int)) da_nil)))))))
theorem ok_Net___init__ (T : Txt K mg P C A) : FnG P w K mg base 4 A.Net___init__.1 A.Net___init__.2 ["self", "looks"] (toSp K 2 (sp_Net___init__ C)) :=
  Fun.pok T.Net___init__.f sc_Net___init__ rfl (sh_Net___init__ C) fun cdv A' outer s H E hr hG =>
    (dss_cons (ds_fldSet T.cls_Net.cl T.na_Net_n_looks (dv 0) (dv 1))
      (dss_cons (ds_fldSet T.cls_Net.cl T.na_Net_n_signs (dv 0) de_newDk)
      (dss_cons (ds_fldSet T.cls_Net.cl T.na_Net_n_heads (dv 0) de_newDk)
      (dss_cons (ds_fldSet T.cls_Net.cl T.na_Net_n_ahead (dv 0) de_newDk)
      (dss_one (ds_for (passes_of rfl) rfl (di_r1 rfl T.z_range (de_len rfl T.z_len (do_of (dv 1)))) (dg_nm 2 sc_Net___init__.nd) (dss_one (ds_if (dt_notinDk (hu9 hr) (dv 2) (de_fld T.cls_Net.cl T.na_Net_n_signs (dv 0))) (dss_one (ds_expr (de_meth T.cls_Net.cl T.Net_go_through.meth (ok_Net_go_through T) (fun _ _ _ _ h => ar2_len h) (hr.mono (by decide)) hG T.Net_go_through.b (takes_of rfl rfl rfl rfl) (dv 0) (da_cons (dv 2) da_nil)))) dss_nil))))))))
theorem ok__law_halves (T : Txt K mg P C A) : FnG P w K mg base 4 A._law_halves.1 A._law_halves.2 ["_law_draw", "_law_many", "_law_most"] (toSp K 3 (sp__law_halves C)) :=
  Fun.pok T._law_halves.f sc__law_halves rfl (sh__law_halves C) fun cdv A' outer s H E hr hG =>
    (dss_cons (ds_setO 3 sc__law_halves.nd (dl_lst (da_cons (de_min2 rfl rfl T.z_min (do_of (de_call (ok__law_half T) rfl (fun _ _ _ _ h => ar1_len h) (hr.mono (by decide)) hG rfl T._law_half.g T._law_half.f.kp T._law_half.b (takes_of rfl rfl rfl rfl) (da_cons (dv 0) da_nil))) (do_of (dv 2))) da_nil)))
      (dss_cons (ds_for (passes_of rfl) rfl (di_r1 rfl T.z_range (de_call (ok__law_take T) rfl (fun _ _ _ _ h => ar2_len h) (hr.mono (by decide)) hG rfl T._law_take.g T._law_take.f.kp T._law_take.b (takes_of rfl rfl rfl rfl) (da_cons (dv 0) (da_cons (dv 1) da_nil)))) (dg_nm 4 sc__law_halves.nd) (dss_cons (ds_set 5 sc__law_halves.nd (de_call (ok__law_pick T) rfl (fun _ _ _ _ h => ar2_len h) (hr.mono (by decide)) hG rfl T._law_pick.g T._law_pick.f.kp T._law_pick.b (takes_of rfl rfl rfl rfl) (da_cons (dv 0) (da_cons (de_l (dl_lst (da_cons (de_call (ok__law_half T) rfl (fun _ _ _ _ h => ar1_len h) (hr.mono (by decide)) hG rfl T._law_half.g T._law_half.f.kp T._law_half.b (takes_of rfl rfl rfl rfl) (da_cons (dv 0) da_nil)) (da_cons (de_mul (do_of (de_ix (dn 3) (do_of de_int))) (do_of de_int)) (da_cons (de_ix (dn 3) (do_of (de_neg (do_of de_int)))) da_nil))))) da_nil))))
      (dss_one (ds_if (DW.dt (dw_and (dt_le (do_of (dv 5)) (do_of de_int)) (dw_and1 (dt_le (do_of (de_call (ok__law_lcm T) rfl (fun _ _ _ _ h => ar1_len h) (hr.mono (by decide)) hG rfl T._law_lcm.g T._law_lcm.f.kp T._law_lcm.b (takes_of rfl rfl rfl rfl) (da_cons (de_add (dn 3) (do_of (de_l (dl_lst (da_cons (dv 5) da_nil))))) da_nil))) (do_of (dv 2)))))) (dss_one (ds_app 3 (dv 5))) dss_nil))))
      (dss_one (ds_frz 3 (ds_ret (dv 3))))))
theorem ok_need_looks (T : Txt K mg P C A) : FnG P w K mg base 5 A.need_looks.1 A.need_looks.2 ["looks"] (toSp K 1 (sp_need_looks C)) :=
  Fun.pok T.need_looks.f sc_need_looks rfl (sh_need_looks C) fun cdv A' outer s H E hr hG =>
    (dss_cons (ds_if (DW.dt (dw_or (dt_not (dt_val (de_isi2 "list" "tuple" (by decide) (by decide) rfl T.z_isinstance rfl T.z_list (by decide +kernel) rfl T.z_tuple (by decide +kernel) (do_of (dv 0))))) (dw_or1 (dt_eq hr.units (do_of (de_len rfl T.z_len (do_of (dv 0)))) (do_of de_int))))) (dss_one (ds_raiseA (k := 0) rfl (takes_of rfl rfl rfl rfl) T.xa_BadLook (hr.mono (by decide)) rfl de_int)) dss_nil)
      (dss_one (ds_for (passes_of rfl) rfl (di_enumA rfl T.z_enumerate (dv 0)) (dg_tup rfl (dgs_cons (dg_nm 1 sc_need_looks.nd) (dgs_cons (dg_nm 2 sc_need_looks.nd) dgs_nil))) (dss_one (ds_if (DW.dt (dw_or (dt_eq hr.units (do_of (dv 1)) (do_of (de_gintE rfl T.c_MOST_LOOKS))) (dw_or1 (dt_not (dt_val (de_call (ok_is_look T) rfl (fun _ _ _ _ h => ar1_len h) (hr.mono (by decide)) hG rfl T.is_look.g T.is_look.f.kp T.is_look.b (takes_of rfl rfl rfl rfl) (da_cons (dv 2) da_nil))))))) (dss_one (ds_raiseA (k := 0) rfl (takes_of rfl rfl rfl rfl) T.xa_BadLook (hr.mono (by decide)) rfl (dv 1))) dss_nil)))))
theorem ok__law_sights (T : Txt K mg P C A) : FnG P w K mg base 5 A._law_sights.1 A._law_sights.2 ["_law_draw", "_law_most"] (toSp K 2 (sp__law_sights C)) :=
  Fun.pok T._law_sights.f sc__law_sights rfl (sh__law_sights C) fun cdv A' outer s H E hr hG =>
    (dss_cons (ds_set 2 sc__law_sights.nd (de_call (ok__law_halves T) rfl (fun _ _ _ _ h => ar3_len h) (hr.mono (by decide)) hG rfl T._law_halves.g T._law_halves.f.kp T._law_halves.b (takes_of rfl rfl rfl rfl) (da_cons (dv 0) (da_cons de_int (da_cons (dv 1) da_nil)))))
      (dss_cons (ds_parL2 3 4 rfl sc__law_sights.nd (de_call (ok__law_take T) rfl (fun _ _ _ _ h => ar2_len h) (hr.mono (by decide)) hG rfl T._law_take.g T._law_take.f.kp T._law_take.b (takes_of rfl rfl rfl rfl) (da_cons (dv 0) (da_cons (de_add (do_of (de_mul (do_of de_int) (do_of (de_call (ok__law_lcm T) rfl (fun _ _ _ _ h => ar1_len h) (hr.mono (by decide)) hG rfl T._law_lcm.g T._law_lcm.f.kp T._law_lcm.b (takes_of rfl rfl rfl rfl) (da_cons (dv 2) da_nil))))) (do_of de_int)) da_nil))))
      (dss_cons (ds_for (passes_of rfl) rfl (di_any (dv 2)) (dg_nm 5 sc__law_sights.nd) (dss_cons (ds_set 6 sc__law_sights.nd (de_ix (do_of (de_call (ok__law_seen T) rfl (fun _ _ _ _ h => ar2_len h) (hr.mono (by decide)) hG rfl T._law_seen.g T._law_seen.f.kp T._law_seen.b (takes_of rfl rfl rfl rfl) (da_cons (dv 5) (da_cons (de_tup (da_cons (dv 3) (da_cons de_int da_nil))) da_nil)))) (do_of de_int)))
      (dss_cons (ds_set 7 sc__law_sights.nd (de_call (ok__law_take T) rfl (fun _ _ _ _ h => ar2_len h) (hr.mono (by decide)) hG rfl T._law_take.g T._law_take.f.kp T._law_take.b (takes_of rfl rfl rfl rfl) (da_cons (dv 0) (da_cons de_int da_nil))))
      (dss_cons (ds_if (dt_eq hr.units (do_of (dv 7)) (do_of de_int)) (dss_one (ds_set 6 sc__law_sights.nd (de_call (ok__law_take T) rfl (fun _ _ _ _ h => ar2_len h) (hr.mono (by decide)) hG rfl T._law_take.g T._law_take.f.kp T._law_take.b (takes_of rfl rfl rfl rfl) (da_cons (dv 0) (da_cons (de_add (do_of (dv 5)) (do_of de_int)) da_nil))))) dss_nil)
      (dss_cons (ds_if (dt_eq hr.units (do_of (dv 7)) (do_of de_int)) (dss_one (ds_set 6 sc__law_sights.nd (de_max2 rfl rfl T.z_max (do_of de_int) (do_of (de_min2 rfl rfl T.z_min (do_of (dv 5)) (do_of (de_add (do_of (dv 6)) (do_of (de_call (ok__law_pick T) rfl (fun _ _ _ _ h => ar2_len h) (hr.mono (by decide)) hG rfl T._law_pick.g T._law_pick.f.kp T._law_pick.b (takes_of rfl rfl rfl rfl) (da_cons (dv 0) (da_cons (de_l (dl_lst (da_cons de_int (da_cons (de_neg (do_of de_int)) da_nil)))) da_nil))))))))))) dss_nil)
      (dss_cons (ds_if (dt_eq hr.units (do_of (dv 7)) (do_of de_int)) (dss_one (ds_set 6 sc__law_sights.nd (de_sub (do_of (dv 5)) (do_of (dv 6))))) dss_nil)
      (dss_one (ds_app 4 (de_tup (da_cons (dv 5) (da_cons (dv 6) da_nil)))))))))))
      (dss_one (ds_frz 4 (ds_ret (dv 4)))))))
theorem ok_ring_of (T : Txt K mg P C A) : FnG P w K mg base 6 A.ring_of.1 A.ring_of.2 ["looks"] (toSpN K 1 (spN_ring_of C)) :=
  Fun.pokN T.ring_of.f sc_ring_of rfl (shN_ring_of C) fun cdv A' outer s H E hr hG =>
    (dss_cons (ds_setNw 1 sc_ring_of.nd (dn_call (ok_clashing_pair T) rfl (fun _ _ _ _ _ h => ar1_len h) (hr.mono (by decide)) hG rfl T.clashing_pair.g T.clashing_pair.f.kp T.clashing_pair.b (takes_of rfl rfl rfl rfl) (da_cons (dv 0) da_nil)))
      (dss_one (ds_retIfN 1 (dt_isnot (dn 1) (do_of de_non)) (dn_meth0 T.cls_Net.cl T.Net_odd_ring.meth (ok_Net_odd_ring T) (fun _ _ _ _ _ h => ar1_len h) (hr.mono (by decide)) hG T.Net_odd_ring.b (takes_of rfl rfl rfl rfl) (de_make (T.cls_Net.maker T.Net___init__) (ok_Net___init__ T) (fun _ _ _ _ h => ar2_len h) (hr.mono (by decide)) hG rfl T.cls_Net.g T.Net___init__.b (takes_of rfl rfl rfl rfl) (da_cons (dv 0) da_nil))))))
theorem ok_is_ring (T : Txt K mg P C A) : FnG P w K mg base 6 A.is_ring.1 A.is_ring.2 ["looks", "thing"] (toSp K 2 (sp_is_ringX C)) :=
  Fun.pok T.is_ring.f sc_is_ring rfl (sh_is_ringX C) fun cdv A' outer s H E hr hG =>
    (dss_cons (ds_expr (de_call (ok_need_looks T) rfl (fun _ _ _ _ h => ar1_len h) (hr.mono (by decide)) hG rfl T.need_looks.g T.need_looks.f.kp T.need_looks.b (takes_of rfl rfl rfl rfl) (da_cons (dv 0) da_nil)))
      (dss_cons (ds_if (DW.dt (dw_or (dt_not (dt_val (de_isi2 "list" "tuple" (by decide) (by decide) rfl T.z_isinstance rfl T.z_list (by decide +kernel) rfl T.z_tuple (by decide +kernel) (do_of (dv 1))))) (dw_or1 (dt_not (dt_val (de_all rfl rfl T.z_all (do_of (de_l (dl_comp rfl sc_is_ring.nd (own := [("at", 3)]) (di_any (dv 1)) (blkOk_by rfl) (fun _ _ _ _ _ => (dg_nm 3 sc_is_ring.nd)) (fun _ _ _ _ _ => dts_nil) (fun _ _ _ _ _ => (de_call (ok_is_between T) rfl (fun _ _ _ _ h => ar3_len h) (hr.mono (by decide)) hG rfl T.is_between.g T.is_between.f.kp T.is_between.b takes0 (da_cons (dv 3) (da_cons de_int (da_cons (de_sub (do_of (de_len rfl T.z_len (do_of (dv 0)))) (do_of de_int)) da_nil)))))))))))))) (dss_one (ds_ret de_bl)) dss_nil)
      (dss_cons (ds_if (DW.dt (dw_or (dt_lt (do_of (de_len rfl T.z_len (do_of (dv 1)))) (do_of de_int)) (dw_or1 (dt_ne hr.units (do_of (de_lenSetX rfl rfl T.z_len rfl T.z_set (do_of (dv 1)))) (do_of (de_len rfl T.z_len (do_of (dv 1)))))))) (dss_one (ds_ret de_bl)) dss_nil)
      (dss_cons (ds_if (dt_eq hr.units (do_of (de_len rfl T.z_len (do_of (dv 1)))) (do_of de_int)) (dss_one (ds_ret (de_eq hr.units (do_of (de_call (ok_bond T) rfl (fun _ _ _ _ h => ar2_len h) (hr.mono (by decide)) hG rfl T.bond.g T.bond.f.kp T.bond.b (takes_of rfl rfl rfl rfl) (da_cons (de_ix (do_of (dv 0)) (do_of (de_ix (do_of (dv 1)) (do_of de_int)))) (da_cons (de_ix (do_of (dv 0)) (do_of (de_ix (do_of (dv 1)) (do_of de_int)))) da_nil)))) (do_of (de_gstrE rfl T.c_CLASH))))) dss_nil)
      (dss_cons (ds_setC 2 rfl sc_is_ring.nd (sw_true rfl rfl rfl (by decide +kernel)) (own := [("k", 4)]) (di_r1 rfl T.z_range (de_len rfl T.z_len (do_of (dv 1)))) (blkOk_by rfl) (fun _ _ _ _ _ => (dg_nm 4 sc_is_ring.nd)) (fun _ _ _ _ _ => dts_nil) (fun _ _ _ _ _ => (de_call (ok_bond T) rfl (fun _ _ _ _ h => ar2_len h) (hr.mono (by decide)) hG rfl T.bond.g T.bond.f.kp T.bond.b takes0 (da_cons (de_ix (do_of (dv 0)) (do_of (de_ix (do_of (dv 1)) (do_of (de_sub (do_of (dv 4)) (do_of de_int)))))) (da_cons (de_ix (do_of (dv 0)) (do_of (de_ix (do_of (dv 1)) (do_of (dv 4))))) da_nil)))))
      (dss_one (ds_ret (de_and (de_all rfl rfl T.z_all (do_of (de_l (dl_comp rfl sc_is_ring.nd (own := [("word", 5)]) (di_any (dv 2)) (blkOk_by rfl) (fun _ _ _ _ _ => (dg_nm 5 sc_is_ring.nd)) (fun _ _ _ _ _ => dts_nil) (fun _ _ _ _ _ => (de_inF (do_of (dv 5)) (do_of (de_tup (da_cons (de_gstrE rfl T.c_ALIKE) (da_cons (de_gstrE rfl T.c_UNLIKE) da_nil)))))))))) (de_bone (de_eq hr.units (do_of (de_mod (do_of (de_cntS (hu1 hr) (do_of (dv 2)) (do_of (de_gstrE rfl T.c_UNLIKE)))) (do_of de_int))) (do_of de_int)))))))))))
theorem ok_ring (T : Txt K mg P C A) : FnG P w K mg base 7 A.ring.1 A.ring.2 ["looks"] (toSpN K 1 (spN_ring C)) :=
  Fun.pokN T.ring.f sc_ring rfl (shN_ring C) fun cdv A' outer s H E hr hG =>
    (dss_cons (ds_expr (de_call (ok_need_looks T) rfl (fun _ _ _ _ h => ar1_len h) (hr.mono (by decide)) hG rfl T.need_looks.g T.need_looks.f.kp T.need_looks.b (takes_of rfl rfl rfl rfl) (da_cons (dv 0) da_nil)))
      (dss_one (ds_retNw (dn_call (ok_ring_of T) rfl (fun _ _ _ _ _ h => ar1_len h) (hr.mono (by decide)) hG rfl T.ring_of.g T.ring_of.f.kp T.ring_of.b (takes_of rfl rfl rfl rfl) (da_cons (dv 0) da_nil)))))
theorem ok_fitting (T : Txt K mg P C A) : FnG P w K mg base 7 A.fitting.1 A.fitting.2 ["looks"] (toSp K 1 (sp_fitting C)) :=
  Fun.pok T.fitting.f sc_fitting rfl (shN_fitting C) fun cdv A' outer s H E hr hG =>
    (dss_cons (ds_expr (de_call (ok_need_looks T) rfl (fun _ _ _ _ h => ar1_len h) (hr.mono (by decide)) hG rfl T.need_looks.g T.need_looks.f.kp T.need_looks.b (takes_of rfl rfl rfl rfl) (da_cons (dv 0) da_nil)))
      (dss_cons (ds_if (dt_isnot (do_of (de_ofN (dn_call (ok_ring_of T) rfl (fun _ _ _ _ _ h => ar1_len h) (hr.mono (by decide)) hG rfl T.ring_of.g T.ring_of.f.kp T.ring_of.b (takes_of rfl rfl rfl rfl) (da_cons (dv 0) da_nil)))) (do_of de_non)) (dss_one (ds_ret de_int)) dss_nil)
      (dss_cons (ds_set 1 sc_fitting.nd (de_len rfl T.z_len (do_of (de_meth0 T.cls_Net.cl T.Net_classes.meth (ok_Net_classes T) (fun _ _ _ _ h => ar1_len h) (hr.mono (by decide)) hG T.Net_classes.b (takes_of rfl rfl rfl rfl) (de_make (T.cls_Net.maker T.Net___init__) (ok_Net___init__ T) (fun _ _ _ _ h => ar2_len h) (hr.mono (by decide)) hG rfl T.cls_Net.g T.Net___init__.b (takes_of rfl rfl rfl rfl) (da_cons (dv 0) da_nil))))))
      (dss_one (ds_ret (de_ife (dt_eq hr.units (do_of (dv 1)) (do_of de_int)) de_int (de_shl (do_of de_int) (do_of (de_sub (do_of (dv 1)) (do_of de_int))))))))))
theorem ok__law_round_right (T : Txt K mg P C A) : FnG P w K mg base 8 A._law_round_right.1 A._law_round_right.2 ["_law_draw"] (toSp K 1 (sp__law_round_right C)) :=
  Fun.pok T._law_round_right.f sc__law_round_right rfl (sh__law_round_right C) fun cdv A' outer s H E hr hG =>
    (dss_cons (ds_par2LI 1 2 (ns := [2, 3, 5, 7, 11, 13]) rfl sc__law_round_right.nd (pa_imp (pa_cons pe_int (pa_cons pe_int (pa_cons pe_int (pa_cons pe_int (pa_cons pe_int (pa_cons pe_int pa_nil)))))) fun _ _ _ h => h))
      (dss_cons (ds_for (passes_of rfl) rfl (di_r1 rfl T.z_range (de_add (do_of de_int) (do_of (de_call (ok__law_take T) rfl (fun _ _ _ _ h => ar2_len h) (hr.mono (by decide)) hG rfl T._law_take.g T._law_take.f.kp T._law_take.b (takes_of rfl rfl rfl rfl) (da_cons (dv 0) (da_cons de_int da_nil)))))) (dg_nm 3 sc__law_round_right.nd) (dss_one (ds_appPop 1 2 (de_call (ok__law_take T) rfl (fun _ _ _ _ h => ar2_len h) (hr.mono (by decide)) hG rfl T._law_take.g T._law_take.f.kp T._law_take.b (takes_of rfl rfl rfl rfl) (da_cons (dv 0) (da_cons (de_len rfl T.z_len (dn 2)) da_nil))))))
      (dss_cons (ds_set 4 sc__law_round_right.nd (de_add (do_of (de_call (ok__law_pick T) rfl (fun _ _ _ _ h => ar2_len h) (hr.mono (by decide)) hG rfl T._law_pick.g T._law_pick.f.kp T._law_pick.b (takes_of rfl rfl rfl rfl) (da_cons (dv 0) (da_cons (de_l (dl_lst (da_cons de_int (da_cons de_int (da_cons de_int (da_cons de_int (da_cons de_int (da_cons de_int (da_cons de_int (da_cons de_int (da_cons de_int da_nil))))))))))) da_nil)))) (do_of (de_mul (do_of de_int) (do_of (de_call (ok__law_take T) rfl (fun _ _ _ _ h => ar2_len h) (hr.mono (by decide)) hG rfl T._law_take.g T._law_take.f.kp T._law_take.b (takes_of rfl rfl rfl rfl) (da_cons (dv 0) (da_cons de_int da_nil))))))))
      (dss_cons (ds_parF2 5 6 rfl sc__law_round_right.nd (de_len rfl T.z_len (dn 1)))
      (dss_cons (ds_for (passes_of rfl) rfl (di_r1 rfl T.z_range (dv 6)) (dg_nm 7 sc__law_round_right.nd) (dss_cons (ds_set 8 sc__law_round_right.nd (de_mul (do_of (de_ix (dn 1) (do_of (dv 7)))) (do_of (de_ix (dn 1) (do_of (de_sub (do_of (dv 7)) (do_of de_int)))))))
      (dss_one (ds_app 5 (de_tup (da_cons (dv 8) (da_cons (de_ix (do_of (de_call (ok__law_seen T) rfl (fun _ _ _ _ h => ar2_len h) (hr.mono (by decide)) hG rfl T._law_seen.g T._law_seen.f.kp T._law_seen.b (takes_of rfl rfl rfl rfl) (da_cons (dv 8) (da_cons (de_tup (da_cons (dv 4) (da_cons de_int da_nil))) da_nil)))) (do_of de_int)) da_nil)))))))
      (dss_cons (ds_setC 9 rfl sc__law_round_right.nd (sw_true rfl rfl rfl (by decide +kernel)) (own := [("_law_at", 7)]) (di_r1 rfl T.z_range (dv 6)) (blkOk_by rfl) (fun _ _ _ _ _ => (dg_nm 7 sc__law_round_right.nd)) (fun _ _ _ _ _ => (dts_one (dt_eq hr.units (do_of (de_call (ok__law_take T) rfl (fun _ _ _ _ h => ar2_len h) (hr.mono (by decide)) hG rfl T._law_take.g T._law_take.f.kp T._law_take.b takes0 (da_cons (dv 0) (da_cons de_int da_nil)))) (do_of de_int)))) (fun _ _ _ _ _ => (dv 7)))
      (dss_cons (ds_for (passes_of rfl) rfl (di_any (dv 9)) (dg_nm 7 sc__law_round_right.nd) (dss_one (ds_setA 5 (de_call (ok__law_turned T) rfl (fun _ _ _ _ h => ar2_len h) (hr.mono (by decide)) hG rfl T._law_turned.g T._law_turned.f.kp T._law_turned.b (takes_of rfl rfl rfl rfl) (da_cons (de_ix (dn 5) (do_of (dv 7))) (da_cons (de_l (dl_lst (da_cons (de_mul (do_of de_int) (do_of (de_ix (dn 1) (do_of (dv 7))))) (da_cons (de_mul (do_of de_int) (do_of (de_ix (dn 1) (do_of (de_sub (do_of (dv 7)) (do_of de_int)))))) da_nil)))) da_nil))) (dv 7))))
      (dss_cons (ds_frz 5 (ds_setNw 10 sc__law_round_right.nd (dn_call (ok_ring T) rfl (fun _ _ _ _ _ h => ar1_len h) (hr.mono (by decide)) hG rfl T.ring.g T.ring.f.kp T.ring.b (takes_of rfl rfl rfl rfl) (da_cons (dv 5) da_nil))))
      (dss_cons (ds_if (dt_eq hr.units (do_of (de_mod (do_of (de_len rfl T.z_len (do_of (dv 9)))) (do_of de_int))) (do_of de_int)) (dss_one (ds_frz 5 (ds_ret (de_and (de_is (dn 10) (do_of de_non)) (de_bone (de_eq hr.units (do_of (de_call (ok_fitting T) rfl (fun _ _ _ _ h => ar1_len h) (hr.mono (by decide)) hG rfl T.fitting.g T.fitting.f.kp T.fitting.b (takes_of rfl rfl rfl rfl) (da_cons (dv 5) da_nil))) (do_of de_int))))))) dss_nil)
      (dss_cons (ds_frz 5 (ds_if (DW.dt (dw_or (dt_is (dn 10) (do_of de_non)) (dw_or (dt_ne hr.units (do_of (de_l (dl_sortI rfl T.z_sorted (dn 10)))) (do_of (de_l (dl_lrg1 rfl rfl T.z_list rfl T.z_range (dv 6))))) (dw_or1 (dt_ne hr.units (do_of (de_call (ok_fitting T) rfl (fun _ _ _ _ h => ar1_len h) (hr.mono (by decide)) hG rfl T.fitting.g T.fitting.f.kp T.fitting.b (takes_of rfl rfl rfl rfl) (da_cons (dv 5) da_nil))) (do_of de_int)))))) (dss_one (ds_ret de_bl)) dss_nil))
      (dss_one (ds_ret (de_and (de_callP (ok__law_is_ring T) rfl (fun _ _ _ _ h => ar2_len h) (hr.mono (by decide)) hG rfl T._law_is_ring.g T._law_is_ring.f.kp T._law_is_ring.b (takes_of rfl rfl rfl rfl) (dao_cons (dn 5) (dao_cons (dn 10) dao_nil))) (de_bone (de_isBl (do_of (de_callP (ok_is_ring T) rfl (fun _ _ _ _ h => ar2_len h) (hr.mono (by decide)) hG rfl T.is_ring.g T.is_ring.f.kp T.is_ring.b (takes_of rfl rfl rfl rfl) (dao_cons (dn 5) (dao_cons (dn 10) dao_nil)))) (do_of de_bl))))))))))))))))
theorem ok_law (T : Txt K mg P C A) : FnG P w K mg base 9 A.law.1 A.law.2 ["_law_script"] (toSp K 1 sp_law) :=
  Fun.pok T.law.f sc_law rfl (sh_law C) fun cdv A' outer s H E hr hG =>
    (dss_cons (ds_set 1 sc_law.nd (de_call (ok__law_begin T) rfl (fun _ _ _ _ h => ar1_len h) (hr.mono (by decide)) hG rfl T._law_begin.g T._law_begin.f.kp T._law_begin.b (takes_of rfl rfl rfl rfl) (da_cons (dv 0) da_nil)))
      (dss_cons (ds_for (passes_of rfl) rfl (di_r1 rfl T.z_range (de_add (do_of de_int) (do_of (de_min2 rfl rfl T.z_min (do_of (de_len rfl T.z_len (do_of (dv 0)))) (do_of de_int))))) (dg_nm 2 sc_law.nd) (dss_cons (ds_if (dt_not (dt_val (de_call (ok__law_round_right T) rfl (fun _ _ _ _ h => ar1_len h) (hr.mono (by decide)) hG rfl T._law_round_right.g T._law_round_right.f.kp T._law_round_right.b (takes_of rfl rfl rfl rfl) (da_cons (dv 1) da_nil)))) (dss_one (ds_ret de_bl)) dss_nil)
      (dss_cons (ds_set 3 sc_law.nd (de_call (ok__law_sights T) rfl (fun _ _ _ _ h => ar2_len h) (hr.mono (by decide)) hG rfl T._law_sights.g T._law_sights.f.kp T._law_sights.b (takes_of rfl rfl rfl rfl) (da_cons (dv 1) (da_cons de_int da_nil))))
      (dss_cons (ds_set 4 sc_law.nd (de_call (ok__law_lcm T) rfl (fun _ _ _ _ h => ar1_len h) (hr.mono (by decide)) hG rfl T._law_lcm.g T._law_lcm.f.kp T._law_lcm.b (takes_of rfl rfl rfl rfl) (da_cons (de_l (dl_comp rfl sc_law.nd (own := [("_law_half_here", 8), ("_law_shown", 9)]) (di_any (dv 3)) (blkOk_by rfl) (fun _ _ _ _ _ => (dg_tup rfl (dgs_cons (dg_nm 8 sc_law.nd) (dgs_cons (dg_nm 9 sc_law.nd) dgs_nil)))) (fun _ _ _ _ _ => dts_nil) (fun _ _ _ _ _ => (dv 8)))) da_nil)))
      (dss_cons (ds_setC 5 rfl sc_law.nd (sw_true rfl rfl rfl (by decide +kernel)) (own := [("_law_number", 10)]) (di_r1 rfl T.z_range (de_add (do_of (dv 4)) (do_of de_int))) (blkOk_by rfl) (fun _ _ _ _ _ => (dg_nm 10 sc_law.nd)) (fun _ _ _ _ _ => (dts_one (dt_val (de_call (ok__law_fit T) rfl (fun _ _ _ _ h => ar2_len h) (hr.mono (by decide)) hG rfl T._law_fit.g T._law_fit.f.kp T._law_fit.b takes0 (da_cons (dv 3) (da_cons (dv 10) da_nil)))))) (fun _ _ _ _ _ => (dv 10)))
      (dss_cons (ds_setNw 6 sc_law.nd (dn_call (ok_ring T) rfl (fun _ _ _ _ _ h => ar1_len h) (hr.mono (by decide)) hG rfl T.ring.g T.ring.f.kp T.ring.b (takes_of rfl rfl rfl rfl) (da_cons (dv 3) da_nil)))
      (dss_cons (ds_if (dt_ne hr.units (do_of (de_is (dn 6) (do_of de_non))) (do_of (de_ne hr.units (do_of (dv 5)) (do_of (de_l (dl_lst da_nil)))))) (dss_one (ds_ret de_bl)) dss_nil)
      (dss_cons (ds_if (dt_is (dn 6) (do_of de_non)) (dss_one ds_continue) dss_nil)
      (dss_cons (ds_if (DW.dt (dw_or (dt_not (dt_val (de_isi "list" (by decide) rfl T.z_isinstance rfl T.z_list (by decide +kernel) (dn 6)))) (dw_or (dt_not (dt_val (de_callP (ok__law_is_ring T) rfl (fun _ _ _ _ h => ar2_len h) (hr.mono (by decide)) hG rfl T._law_is_ring.g T._law_is_ring.f.kp T._law_is_ring.b (takes_of rfl rfl rfl rfl) (dao_cons (do_of (dv 3)) (dao_cons (dn 6) dao_nil))))) (dw_or1 (dt_isntBl (do_of (de_callP (ok_is_ring T) rfl (fun _ _ _ _ h => ar2_len h) (hr.mono (by decide)) hG rfl T.is_ring.g T.is_ring.f.kp T.is_ring.b (takes_of rfl rfl rfl rfl) (dao_cons (do_of (dv 3)) (dao_cons (dn 6) dao_nil)))) (do_of de_bl)))))) (dss_one (ds_ret de_bl)) dss_nil)
      (dss_cons (ds_set 7 sc_law.nd (de_l (dl_listc rfl T.z_list (dn 6))))
      (dss_cons (ds_app 6 de_non)
      (dss_one (ds_if (dt_ne hr.units (do_of (de_ofN (dn_callK (ok_ring T) rfl (fun _ _ _ _ _ h => ar1_len h) (hr.mono (by decide)) hG rfl T.ring.g T.ring.f.kp (kwb_of ["looks"] [0] T.ring.f fun _ _ _ _ _ _ ws hl => match ws, hl with | [], h => absurd h (by simp [pick]) | _ :: _, _ => rfl) (takes_of rfl rfl rfl rfl) (dk_cons (de_tupc rfl T.z_tuple (do_of (dv 3))) dk_nil)))) (do_of (dv 7))) (dss_one (ds_ret de_bl)) dss_nil)))))))))))))
      (dss_one (ds_ret de_bl))))
end
set_option maxHeartbeats 0 in
theorem all_mk {P : Program} {w : World} {K : PySem.W.Frag} {h : Heap} {mg : Str → Option Value} {fa : Addr} {f0 f1 f2 f3 f4 f5 f6 f7 f8 f9 f10 f11 f12 f13 f14 f15 f16 f17 f18 f19 f20 f21 f22 f23 f24 f25 f26 f27 f28 f29 f30 f31 f32 e_BadLook o_Net : Addr} (X : K.In h) (G : h.Ns mainGlobals mg) (hfa : mg "law" = some (.ref fa))
    {od0 an0 od1 an1 od2 an2 od3 an3 od4 an4 od5 an5 od6 an6 od7 an7 od8 an8 od9 an9 od10 an10 od11 an11 od12 an12 od13 an13 od14 an14 od15 an15 od16 an16 od17 an17 od18 an18 od19 an19 od20 an20 od21 an21 od22 an22 od23 an23 od24 an24 od25 an25 od26 an26 od27 an27 od28 an28 od29 an29 od30 an30 od31 an31 od32 an32 : Option Addr} {sl0 sl1 sl2 sl3 sl4 sl5 sl6 sl7 sl8 sl9 sl10 sl11 sl12 sl13 sl14 sl15 sl16 sl17 sl18 sl19 sl20 sl21 sl22 sl23 sl24 sl25 sl26 sl27 sl28 sl29 sl30 sl31 sl32 : Array (Option Value)} {oc0 kV0 dc0 pm0 cd0 ct0 oc1 kV1 dc1 pm1 cd1 ct1 oc2 kV2 dc2 pm2 cd2 ct2 oc3 kV3 dc3 pm3 cd3 ct3 oc4 kV4 dc4 pm4 cd4 ct4 oc5 kV5 dc5 pm5 cd5 ct5 oc6 kV6 dc6 pm6 cd6 ct6 oc7 kV7 dc7 pm7 cd7 ct7 oc8 kV8 dc8 pm8 cd8 ct8 oc9 kV9 dc9 pm9 cd9 ct9 oc10 kV10 dc10 pm10 cd10 ct10 oc11 kV11 dc11 pm11 cd11 ct11 oc12 kV12 dc12 pm12 cd12 ct12 oc13 kV13 dc13 pm13 cd13 ct13 oc14 kV14 dc14 pm14 cd14 ct14 oc15 kV15 dc15 pm15 cd15 ct15 oc16 kV16 dc16 pm16 cd16 ct16 oc17 kV17 dc17 pm17 cd17 ct17 oc18 kV18 dc18 pm18 cd18 ct18 oc19 kV19 dc19 pm19 cd19 ct19 oc20 kV20 dc20 pm20 cd20 ct20 oc21 kV21 dc21 pm21 cd21 ct21 oc22 kV22 dc22 pm22 cd22 ct22 oc23 kV23 dc23 pm23 cd23 ct23 oc24 kV24 dc24 pm24 cd24 ct24 oc25 kV25 dc25 pm25 cd25 ct25 oc26 kV26 dc26 pm26 cd26 ct26 oc27 kV27 dc27 pm27 cd27 ct27 oc28 kV28 dc28 pm28 cd28 ct28 oc29 kV29 dc29 pm29 cd29 ct29 oc30 kV30 dc30 pm30 cd30 ct30 oc31 kV31 dc31 pm31 cd31 ct31 oc32 kV32 dc32 pm32 cd32 ct32 : Value}
    {fiBadLook cdaBadLook ccBadLook NCBadLook : Addr} {nmBadLook qnBadLook filBadLook : Str} {bsBadLook bmBadLook subBadLook : List Value} {snBadLook : List Str} {abBadLook : Bool} {colBadLook : Option Bool} {ddBadLook odiBadLook aniBadLook cddBadLook cldBadLook : Option Addr} {k0BadLook k1BadLook k2BadLook k3BadLook k5BadLook : Option Value} {ociBadLook kViBadLook dciBadLook pmiBadLook ctiBadLook cclBadLook clBadLook : Value} {sliBadLook ccsBadLook cslBadLook : Array (Option Value)} {vsBadLook : Array Value} {tfBadLook : Tok}
    (gx_BadLook : PySem.W.nsIn K mainGlobals "BadLook" = some (some (.ref e_BadLook)))
    (xc_BadLook : K.lookup e_BadLook = some (excClassObj nmBadLook qnBadLook e_BadLook NCBadLook bsBadLook bmBadLook true snBadLook subBadLook abBadLook colBadLook ddBadLook k0BadLook k1BadLook k2BadLook k3BadLook k5BadLook "ValueError.__new__"))
    (xr_BadLook : HandSPX.refsVE bmBadLook = true)
    (xs_BadLook : PySem.W.findIn K (.ref e_BadLook) "__setattr__" = some (some (.builtin "object.__setattr__")))
    (xb_BadLook : PySem.W.subIn K (.ref e_BadLook) (.type "BaseException") = some true)
    (xt_BadLook : PySem.W.typeIn K (.ref e_BadLook) = some (.type "type"))
    (xk_BadLook : PySem.W.keepIn K (.ref e_BadLook) = true)
    (xi_BadLook : PySem.W.findIn K (.ref e_BadLook) "__init__" = some (some (.ref fiBadLook)))
    (xf_BadLook : PySem.W.typeIn K (.ref fiBadLook) = some (.type "function"))
    (xl_BadLook : K.lookup fiBadLook = some ⟨ociBadLook, odiBadLook, .func (PySem.W.ksFn "__init__" "BadLook.__init__" (defArgs s_BadLook___init__) (defBody s_BadLook___init__) (defScope s_BadLook___init__) .none kViBadLook dciBadLook pmiBadLook aniBadLook (.ref cdaBadLook) ctiBadLook ccBadLook), sliBadLook⟩)
    (xo_BadLook : PySem.W.codeIn K (.ref cdaBadLook) "BadLook.__init__" = true)
    (xd_BadLook : K.lookup cdaBadLook = some ⟨cclBadLook, cddBadLook, .fields vsBadLook, ccsBadLook⟩)
    (xv_BadLook : vsBadLook[2]? = some (.str filBadLook tfBadLook))
    (xp_BadLook : ((P.main.file : Str) == filBadLook) = true)
    (xe_BadLook : K.lookup ccBadLook = some ⟨clBadLook, cldBadLook, .cell (some (.ref e_BadLook)), cslBadLook⟩)
    (xu_BadLook : PySem.W.ks_superIn K e_BadLook e_BadLook "__init__" = some (some (.builtin "ValueError.__init__")))
    (xw_BadLook : PySem.W.subIn K (.ref e_BadLook) (.type "ValueError") = some true)
    (xm_BadLook : PySem.W.mroIn K e_BadLook (.ref e_BadLook) = some true)
    (xn_BadLook : PySem.W.findIn K (.ref e_BadLook) "at" = some none)
    (x_opq : PySem.W.nsIn K PySem.cStatics "thirdparty.any" = some none)
    (x_top : (P.main.scope.names.lookup ("super" : Str)).isSome = false)
    (z_abs : PySem.W.nsIn K mainGlobals "abs" = some none)
    (z_all : PySem.W.nsIn K mainGlobals "all" = some none)
    (z_bool : PySem.W.nsIn K mainGlobals "bool" = some none)
    (z_divmod : PySem.W.nsIn K mainGlobals "divmod" = some none)
    (z_enumerate : PySem.W.nsIn K mainGlobals "enumerate" = some none)
    (z_int : PySem.W.nsIn K mainGlobals "int" = some none)
    (z_isinstance : PySem.W.nsIn K mainGlobals "isinstance" = some none)
    (z_len : PySem.W.nsIn K mainGlobals "len" = some none)
    (z_list : PySem.W.nsIn K mainGlobals "list" = some none)
    (z_max : PySem.W.nsIn K mainGlobals "max" = some none)
    (z_min : PySem.W.nsIn K mainGlobals "min" = some none)
    (z_range : PySem.W.nsIn K mainGlobals "range" = some none)
    (z_set : PySem.W.nsIn K mainGlobals "set" = some none)
    (z_sorted : PySem.W.nsIn K mainGlobals "sorted" = some none)
    (z_super : PySem.W.nsIn K mainGlobals "super" = some none)
    (z_tuple : PySem.W.nsIn K mainGlobals "tuple" = some none)
    (c_ALIKE : ∃ t, PySem.W.nsIn K mainGlobals "ALIKE" = some (some (.str "alike" t)))
    (c_CLASH : ∃ t, PySem.W.nsIn K mainGlobals "CLASH" = some (some (.str "clash" t)))
    (c_FREE : ∃ t, PySem.W.nsIn K mainGlobals "FREE" = some (some (.str "free" t)))
    (c_GREATEST_HALF : ∃ t, PySem.W.nsIn K mainGlobals "GREATEST_HALF" = some (some (.int 1000 t)))
    (c_MOST_LOOKS : ∃ t, PySem.W.nsIn K mainGlobals "MOST_LOOKS" = some (some (.int 6 t)))
    (c_UNLIKE : ∃ t, PySem.W.nsIn K mainGlobals "UNLIKE" = some (some (.str "unlike" t)))
    (gc_Net : PySem.W.nsIn K mainGlobals "Net" = some (some (.ref o_Net)))
    (pg_Net : PySem.W.plainGet K o_Net Str.empty = true)
    (hd_Net : PySem.W.hasDictIn K o_Net = true)
    (po_Net : PySem.W.plainOver K o_Net = true)
    (sa_Net : PySem.W.findIn K (.ref o_Net) "__setattr__" = some (some (.builtin "object.__setattr__")))
    (mk_Net : PySem.W.makesIn K o_Net = true)
    (kc_Net : PySem.W.keepIn K (.ref o_Net) = true)
    (sf_Net : PySem.W.selfFirst K o_Net = true)
    (ic_Net : PySem.W.isClsIn K o_Net = true)
    (ty_Net : PySem.W.typeIn K (.ref o_Net) = some (.type "type"))
    (ktNoneType_Net : PySem.W.subIn K (.type "NoneType") (.ref o_Net) = some false)
    (ktbool_Net : PySem.W.subIn K (.type "bool") (.ref o_Net) = some false)
    (ktint_Net : PySem.W.subIn K (.type "int") (.ref o_Net) = some false)
    (ktstr_Net : PySem.W.subIn K (.type "str") (.ref o_Net) = some false)
    (kttuple_Net : PySem.W.subIn K (.type "tuple") (.ref o_Net) = some false)
    (ktlist_Net : PySem.W.subIn K (.type "list") (.ref o_Net) = some false)
    (ktdict_Net : PySem.W.subIn K (.type "dict") (.ref o_Net) = some false)
    (ca_Net : PySem.W.findIn K (.ref o_Net) "__class__" = some (some (.builtin "object.__class__")))
    (cn_Net : PySem.W.specialIn K (.builtin "object.__class__") "__get__" = some (some (.builtin "getset_descriptor.__get__")))
    (ct_Net : PySem.W.takesIn K (.builtin "object.__class__") = some true)
    (cm_Net : PySem.W.mroIn K o_Net (.type "object") = some true)
    (na_Net_n_ahead : PySem.W.findIn K (.ref o_Net) "n_ahead" = some none)
    (na_Net_n_heads : PySem.W.findIn K (.ref o_Net) "n_heads" = some none)
    (na_Net_n_looks : PySem.W.findIn K (.ref o_Net) "n_looks" = some none)
    (na_Net_n_signs : PySem.W.findIn K (.ref o_Net) "n_signs" = some none)
    (a0 : PySem.W.nsIn K mainGlobals "is_integer" = some (some (.ref f0)))
    (l0 : K.lookup f0 = some ⟨oc0, od0, .func (PySem.W.fnOf "is_integer" "is_integer" (defArgs s_is_integer) (defBody s_is_integer) (defScope s_is_integer) .none kV0 dc0 pm0 an0 cd0 ct0), sl0⟩)
    (c0 : PySem.W.codeIn K cd0 "is_integer" = true)
    (k0 : PySem.W.keepIn K (.ref f0) = true)
    (a1 : PySem.W.nsIn K mainGlobals "divisor" = some (some (.ref f1)))
    (l1 : K.lookup f1 = some ⟨oc1, od1, .func (PySem.W.fnOf "divisor" "divisor" (defArgs s_divisor) (defBody s_divisor) (defScope s_divisor) .none kV1 dc1 pm1 an1 cd1 ct1), sl1⟩)
    (c1 : PySem.W.codeIn K cd1 "divisor" = true)
    (k1 : PySem.W.keepIn K (.ref f1) = true)
    (a2 : PySem.W.findIn K (.ref o_Net) "way" = some (some (.ref f2)))
    (i2 : PySem.W.isFn K (.ref f2) = true)
    (l2 : K.lookup f2 = some ⟨oc2, od2, .func (PySem.W.fnOf "way" "Net.way" (defArgs s_Net_way) (defBody s_Net_way) (defScope s_Net_way) .none kV2 dc2 pm2 an2 cd2 ct2), sl2⟩)
    (c2 : PySem.W.codeIn K cd2 "Net.way" = true)
    (k2 : PySem.W.keepIn K (.ref f2) = true)
    (a3 : PySem.W.findIn K (.ref o_Net) "classes" = some (some (.ref f3)))
    (i3 : PySem.W.isFn K (.ref f3) = true)
    (l3 : K.lookup f3 = some ⟨oc3, od3, .func (PySem.W.fnOf "classes" "Net.classes" (defArgs s_Net_classes) (defBody s_Net_classes) (defScope s_Net_classes) .none kV3 dc3 pm3 an3 cd3 ct3), sl3⟩)
    (c3 : PySem.W.codeIn K cd3 "Net.classes" = true)
    (k3 : PySem.W.keepIn K (.ref f3) = true)
    (a4 : PySem.W.nsIn K mainGlobals "_law_begin" = some (some (.ref f4)))
    (l4 : K.lookup f4 = some ⟨oc4, od4, .func (PySem.W.fnOf "_law_begin" "_law_begin" (defArgs s__law_begin) (defBody s__law_begin) (defScope s__law_begin) .none kV4 dc4 pm4 an4 cd4 ct4), sl4⟩)
    (c4 : PySem.W.codeIn K cd4 "_law_begin" = true)
    (k4 : PySem.W.keepIn K (.ref f4) = true)
    (a5 : PySem.W.nsIn K mainGlobals "_law_take" = some (some (.ref f5)))
    (l5 : K.lookup f5 = some ⟨oc5, od5, .func (PySem.W.fnOf "_law_take" "_law_take" (defArgs s__law_take) (defBody s__law_take) (defScope s__law_take) .none kV5 dc5 pm5 an5 cd5 ct5), sl5⟩)
    (c5 : PySem.W.codeIn K cd5 "_law_take" = true)
    (k5 : PySem.W.keepIn K (.ref f5) = true)
    (a6 : PySem.W.nsIn K mainGlobals "_law_fraction" = some (some (.ref f6)))
    (l6 : K.lookup f6 = some ⟨oc6, od6, .func (PySem.W.fnOf "_law_fraction" "_law_fraction" (defArgs s__law_fraction) (defBody s__law_fraction) (defScope s__law_fraction) .none kV6 dc6 pm6 an6 cd6 ct6), sl6⟩)
    (c6 : PySem.W.codeIn K cd6 "_law_fraction" = true)
    (k6 : PySem.W.keepIn K (.ref f6) = true)
    (a7 : PySem.W.nsIn K mainGlobals "_law_lcm" = some (some (.ref f7)))
    (l7 : K.lookup f7 = some ⟨oc7, od7, .func (PySem.W.fnOf "_law_lcm" "_law_lcm" (defArgs s__law_lcm) (defBody s__law_lcm) (defScope s__law_lcm) .none kV7 dc7 pm7 an7 cd7 ct7), sl7⟩)
    (c7 : PySem.W.codeIn K cd7 "_law_lcm" = true)
    (k7 : PySem.W.keepIn K (.ref f7) = true)
    (a8 : PySem.W.nsIn K mainGlobals "_law_gcd" = some (some (.ref f8)))
    (l8 : K.lookup f8 = some ⟨oc8, od8, .func (PySem.W.fnOf "_law_gcd" "_law_gcd" (defArgs s__law_gcd) (defBody s__law_gcd) (defScope s__law_gcd) .none kV8 dc8 pm8 an8 cd8 ct8), sl8⟩)
    (c8 : PySem.W.codeIn K cd8 "_law_gcd" = true)
    (k8 : PySem.W.keepIn K (.ref f8) = true)
    (a9 : PySem.W.nsIn K mainGlobals "_law_turned" = some (some (.ref f9)))
    (l9 : K.lookup f9 = some ⟨oc9, od9, .func (PySem.W.fnOf "_law_turned" "_law_turned" (defArgs s__law_turned) (defBody s__law_turned) (defScope s__law_turned) .none kV9 dc9 pm9 an9 cd9 ct9), sl9⟩)
    (c9 : PySem.W.codeIn K cd9 "_law_turned" = true)
    (k9 : PySem.W.keepIn K (.ref f9) = true)
    (a10 : PySem.W.nsIn K mainGlobals "is_between" = some (some (.ref f10)))
    (l10 : K.lookup f10 = some ⟨oc10, od10, .func (PySem.W.fnOf "is_between" "is_between" (defArgs s_is_between) (defBody s_is_between) (defScope s_is_between) .none kV10 dc10 pm10 an10 cd10 ct10), sl10⟩)
    (c10 : PySem.W.codeIn K cd10 "is_between" = true)
    (k10 : PySem.W.keepIn K (.ref f10) = true)
    (a11 : PySem.W.nsIn K mainGlobals "bond" = some (some (.ref f11)))
    (l11 : K.lookup f11 = some ⟨oc11, od11, .func (PySem.W.fnOf "bond" "bond" (defArgs s_bond) (defBody s_bond) (defScope s_bond) .none kV11 dc11 pm11 an11 cd11 ct11), sl11⟩)
    (c11 : PySem.W.codeIn K cd11 "bond" = true)
    (k11 : PySem.W.keepIn K (.ref f11) = true)
    (a12 : PySem.W.nsIn K mainGlobals "_law_pick" = some (some (.ref f12)))
    (l12 : K.lookup f12 = some ⟨oc12, od12, .func (PySem.W.fnOf "_law_pick" "_law_pick" (defArgs s__law_pick) (defBody s__law_pick) (defScope s__law_pick) .none kV12 dc12 pm12 an12 cd12 ct12), sl12⟩)
    (c12 : PySem.W.codeIn K cd12 "_law_pick" = true)
    (k12 : PySem.W.keepIn K (.ref f12) = true)
    (a13 : PySem.W.nsIn K mainGlobals "_law_seen" = some (some (.ref f13)))
    (l13 : K.lookup f13 = some ⟨oc13, od13, .func (PySem.W.fnOf "_law_seen" "_law_seen" (defArgs s__law_seen) (defBody s__law_seen) (defScope s__law_seen) .none kV13 dc13 pm13 an13 cd13 ct13), sl13⟩)
    (c13 : PySem.W.codeIn K cd13 "_law_seen" = true)
    (k13 : PySem.W.keepIn K (.ref f13) = true)
    (a14 : PySem.W.nsIn K mainGlobals "_law_bond" = some (some (.ref f14)))
    (l14 : K.lookup f14 = some ⟨oc14, od14, .func (PySem.W.fnOf "_law_bond" "_law_bond" (defArgs s__law_bond) (defBody s__law_bond) (defScope s__law_bond) .none kV14 dc14 pm14 an14 cd14 ct14), sl14⟩)
    (c14 : PySem.W.codeIn K cd14 "_law_bond" = true)
    (k14 : PySem.W.keepIn K (.ref f14) = true)
    (a15 : PySem.W.nsIn K mainGlobals "is_half" = some (some (.ref f15)))
    (l15 : K.lookup f15 = some ⟨oc15, od15, .func (PySem.W.fnOf "is_half" "is_half" (defArgs s_is_half) (defBody s_is_half) (defScope s_is_half) .none kV15 dc15 pm15 an15 cd15 ct15), sl15⟩)
    (c15 : PySem.W.codeIn K cd15 "is_half" = true)
    (k15 : PySem.W.keepIn K (.ref f15) = true)
    (a16 : PySem.W.nsIn K mainGlobals "clashing_pair" = some (some (.ref f16)))
    (l16 : K.lookup f16 = some ⟨oc16, od16, .func (PySem.W.fnOf "clashing_pair" "clashing_pair" (defArgs s_clashing_pair) (defBody s_clashing_pair) (defScope s_clashing_pair) .none kV16 dc16 pm16 an16 cd16 ct16), sl16⟩)
    (c16 : PySem.W.codeIn K cd16 "clashing_pair" = true)
    (k16 : PySem.W.keepIn K (.ref f16) = true)
    (a17 : PySem.W.findIn K (.ref o_Net) "go_through" = some (some (.ref f17)))
    (i17 : PySem.W.isFn K (.ref f17) = true)
    (l17 : K.lookup f17 = some ⟨oc17, od17, .func (PySem.W.fnOf "go_through" "Net.go_through" (defArgs s_Net_go_through) (defBody s_Net_go_through) (defScope s_Net_go_through) .none kV17 dc17 pm17 an17 cd17 ct17), sl17⟩)
    (c17 : PySem.W.codeIn K cd17 "Net.go_through" = true)
    (k17 : PySem.W.keepIn K (.ref f17) = true)
    (a18 : PySem.W.findIn K (.ref o_Net) "odd_ring" = some (some (.ref f18)))
    (i18 : PySem.W.isFn K (.ref f18) = true)
    (l18 : K.lookup f18 = some ⟨oc18, od18, .func (PySem.W.fnOf "odd_ring" "Net.odd_ring" (defArgs s_Net_odd_ring) (defBody s_Net_odd_ring) (defScope s_Net_odd_ring) .none kV18 dc18 pm18 an18 cd18 ct18), sl18⟩)
    (c18 : PySem.W.codeIn K cd18 "Net.odd_ring" = true)
    (k18 : PySem.W.keepIn K (.ref f18) = true)
    (a19 : PySem.W.nsIn K mainGlobals "_law_half" = some (some (.ref f19)))
    (l19 : K.lookup f19 = some ⟨oc19, od19, .func (PySem.W.fnOf "_law_half" "_law_half" (defArgs s__law_half) (defBody s__law_half) (defScope s__law_half) .none kV19 dc19 pm19 an19 cd19 ct19), sl19⟩)
    (c19 : PySem.W.codeIn K cd19 "_law_half" = true)
    (k19 : PySem.W.keepIn K (.ref f19) = true)
    (a20 : PySem.W.nsIn K mainGlobals "_law_fit" = some (some (.ref f20)))
    (l20 : K.lookup f20 = some ⟨oc20, od20, .func (PySem.W.fnOf "_law_fit" "_law_fit" (defArgs s__law_fit) (defBody s__law_fit) (defScope s__law_fit) .none kV20 dc20 pm20 an20 cd20 ct20), sl20⟩)
    (c20 : PySem.W.codeIn K cd20 "_law_fit" = true)
    (k20 : PySem.W.keepIn K (.ref f20) = true)
    (a21 : PySem.W.nsIn K mainGlobals "_law_is_ring" = some (some (.ref f21)))
    (l21 : K.lookup f21 = some ⟨oc21, od21, .func (PySem.W.fnOf "_law_is_ring" "_law_is_ring" (defArgs s__law_is_ring) (defBody s__law_is_ring) (defScope s__law_is_ring) .none kV21 dc21 pm21 an21 cd21 ct21), sl21⟩)
    (c21 : PySem.W.codeIn K cd21 "_law_is_ring" = true)
    (k21 : PySem.W.keepIn K (.ref f21) = true)
    (a22 : PySem.W.nsIn K mainGlobals "is_look" = some (some (.ref f22)))
    (l22 : K.lookup f22 = some ⟨oc22, od22, .func (PySem.W.fnOf "is_look" "is_look" (defArgs s_is_look) (defBody s_is_look) (defScope s_is_look) .none kV22 dc22 pm22 an22 cd22 ct22), sl22⟩)
    (c22 : PySem.W.codeIn K cd22 "is_look" = true)
    (k22 : PySem.W.keepIn K (.ref f22) = true)
    (a23 : PySem.W.findIn K (.ref o_Net) "__init__" = some (some (.ref f23)))
    (i23 : PySem.W.isFn K (.ref f23) = true)
    (l23 : K.lookup f23 = some ⟨oc23, od23, .func (PySem.W.fnOf "__init__" "Net.__init__" (defArgs s_Net___init__) (defBody s_Net___init__) (defScope s_Net___init__) .none kV23 dc23 pm23 an23 cd23 ct23), sl23⟩)
    (c23 : PySem.W.codeIn K cd23 "Net.__init__" = true)
    (k23 : PySem.W.keepIn K (.ref f23) = true)
    (a24 : PySem.W.nsIn K mainGlobals "_law_halves" = some (some (.ref f24)))
    (l24 : K.lookup f24 = some ⟨oc24, od24, .func (PySem.W.fnOf "_law_halves" "_law_halves" (defArgs s__law_halves) (defBody s__law_halves) (defScope s__law_halves) .none kV24 dc24 pm24 an24 cd24 ct24), sl24⟩)
    (c24 : PySem.W.codeIn K cd24 "_law_halves" = true)
    (k24 : PySem.W.keepIn K (.ref f24) = true)
    (a25 : PySem.W.nsIn K mainGlobals "need_looks" = some (some (.ref f25)))
    (l25 : K.lookup f25 = some ⟨oc25, od25, .func (PySem.W.fnOf "need_looks" "need_looks" (defArgs s_need_looks) (defBody s_need_looks) (defScope s_need_looks) .none kV25 dc25 pm25 an25 cd25 ct25), sl25⟩)
    (c25 : PySem.W.codeIn K cd25 "need_looks" = true)
    (k25 : PySem.W.keepIn K (.ref f25) = true)
    (a26 : PySem.W.nsIn K mainGlobals "_law_sights" = some (some (.ref f26)))
    (l26 : K.lookup f26 = some ⟨oc26, od26, .func (PySem.W.fnOf "_law_sights" "_law_sights" (defArgs s__law_sights) (defBody s__law_sights) (defScope s__law_sights) .none kV26 dc26 pm26 an26 cd26 ct26), sl26⟩)
    (c26 : PySem.W.codeIn K cd26 "_law_sights" = true)
    (k26 : PySem.W.keepIn K (.ref f26) = true)
    (a27 : PySem.W.nsIn K mainGlobals "ring_of" = some (some (.ref f27)))
    (l27 : K.lookup f27 = some ⟨oc27, od27, .func (PySem.W.fnOf "ring_of" "ring_of" (defArgs s_ring_of) (defBody s_ring_of) (defScope s_ring_of) .none kV27 dc27 pm27 an27 cd27 ct27), sl27⟩)
    (c27 : PySem.W.codeIn K cd27 "ring_of" = true)
    (k27 : PySem.W.keepIn K (.ref f27) = true)
    (a28 : PySem.W.nsIn K mainGlobals "is_ring" = some (some (.ref f28)))
    (l28 : K.lookup f28 = some ⟨oc28, od28, .func (PySem.W.fnOf "is_ring" "is_ring" (defArgs s_is_ring) (defBody s_is_ring) (defScope s_is_ring) .none kV28 dc28 pm28 an28 cd28 ct28), sl28⟩)
    (c28 : PySem.W.codeIn K cd28 "is_ring" = true)
    (k28 : PySem.W.keepIn K (.ref f28) = true)
    (a29 : PySem.W.nsIn K mainGlobals "ring" = some (some (.ref f29)))
    (l29 : K.lookup f29 = some ⟨oc29, od29, .func (PySem.W.fnOf "ring" "ring" (defArgs s_ring) (defBody s_ring) (defScope s_ring) .none kV29 dc29 pm29 an29 cd29 ct29), sl29⟩)
    (c29 : PySem.W.codeIn K cd29 "ring" = true)
    (k29 : PySem.W.keepIn K (.ref f29) = true)
    (a30 : PySem.W.nsIn K mainGlobals "fitting" = some (some (.ref f30)))
    (l30 : K.lookup f30 = some ⟨oc30, od30, .func (PySem.W.fnOf "fitting" "fitting" (defArgs s_fitting) (defBody s_fitting) (defScope s_fitting) .none kV30 dc30 pm30 an30 cd30 ct30), sl30⟩)
    (c30 : PySem.W.codeIn K cd30 "fitting" = true)
    (k30 : PySem.W.keepIn K (.ref f30) = true)
    (a31 : PySem.W.nsIn K mainGlobals "_law_round_right" = some (some (.ref f31)))
    (l31 : K.lookup f31 = some ⟨oc31, od31, .func (PySem.W.fnOf "_law_round_right" "_law_round_right" (defArgs s__law_round_right) (defBody s__law_round_right) (defScope s__law_round_right) .none kV31 dc31 pm31 an31 cd31 ct31), sl31⟩)
    (c31 : PySem.W.codeIn K cd31 "_law_round_right" = true)
    (k31 : PySem.W.keepIn K (.ref f31) = true)
    (a32 : PySem.W.nsIn K mainGlobals "law" = some (some (.ref f32)))
    (l32 : K.lookup f32 = some ⟨oc32, od32, .func (PySem.W.fnOf "law" "law" (defArgs s_law) (defBody s_law) (defScope s_law) .none kV32 dc32 pm32 an32 cd32 ct32), sl32⟩)
    (c32 : PySem.W.codeIn K cd32 "law" = true)
    (k32 : PySem.W.keepIn K (.ref f32) = true)
    : ∃ fd : FuncData, (∀ (s : Shared) (u : Value), BindsTo s fd ⟨[u], []⟩ [("_law_script", u)]) ∧ ∀ base : Heap, K.In base → base.Ns mainGlobals mg → FnG P w K mg base 9 fa fd ["_law_script"] (toSp K 1 sp_law) := by
  have e := hfa.symm.trans (PySem.W.mg_of X G a32)
  cases e
  have F0 := fun_mk (st := s_is_integer) l0 c0 k0
  have D0 : DefT K mg "is_integer" s_is_integer ["thing"] f0 _ := ⟨F0, F0.binds (ps := ["thing"]) fun _ _ _ _ _ _ us hl => match us, hl with | [_], _ => rfl, PySem.W.mg_of X G a0⟩
  have F1 := fun_mk (st := s_divisor) l1 c1 k1
  have D1 : DefT K mg "divisor" s_divisor ["one", "other"] f1 _ := ⟨F1, F1.binds (ps := ["one", "other"]) fun _ _ _ _ _ _ us hl => match us, hl with | [_, _], _ => rfl, PySem.W.mg_of X G a1⟩
  have F2 := fun_mk (st := s_Net_way) l2 c2 k2
  have D2 : MethT K o_Net "way" "Net.way" s_Net_way ["self", "at"] f2 _ := ⟨F2, F2.binds (ps := ["self", "at"]) fun _ _ _ _ _ _ us hl => match us, hl with | [_, _], _ => rfl, a2, i2⟩
  have F3 := fun_mk (st := s_Net_classes) l3 c3 k3
  have D3 : MethT K o_Net "classes" "Net.classes" s_Net_classes ["self"] f3 _ := ⟨F3, F3.binds (ps := ["self"]) fun _ _ _ _ _ _ us hl => match us, hl with | [_], _ => rfl, a3, i3⟩
  have F4 := fun_mk (st := s__law_begin) l4 c4 k4
  have D4 : DefT K mg "_law_begin" s__law_begin ["_law_script"] f4 _ := ⟨F4, F4.binds (ps := ["_law_script"]) fun _ _ _ _ _ _ us hl => match us, hl with | [_], _ => rfl, PySem.W.mg_of X G a4⟩
  have F5 := fun_mk (st := s__law_take) l5 c5 k5
  have D5 : DefT K mg "_law_take" s__law_take ["_law_draw", "_law_size"] f5 _ := ⟨F5, F5.binds (ps := ["_law_draw", "_law_size"]) fun _ _ _ _ _ _ us hl => match us, hl with | [_, _], _ => rfl, PySem.W.mg_of X G a5⟩
  have F6 := fun_mk (st := s__law_fraction) l6 c6 k6
  have D6 : DefT K mg "_law_fraction" s__law_fraction ["_law_top", "_law_bottom"] f6 _ := ⟨F6, F6.binds (ps := ["_law_top", "_law_bottom"]) fun _ _ _ _ _ _ us hl => match us, hl with | [_, _], _ => rfl, PySem.W.mg_of X G a6⟩
  have F7 := fun_mk (st := s__law_lcm) l7 c7 k7
  have D7 : DefT K mg "_law_lcm" s__law_lcm ["_law_numbers"] f7 _ := ⟨F7, F7.binds (ps := ["_law_numbers"]) fun _ _ _ _ _ _ us hl => match us, hl with | [_], _ => rfl, PySem.W.mg_of X G a7⟩
  have F8 := fun_mk (st := s__law_gcd) l8 c8 k8
  have D8 : DefT K mg "_law_gcd" s__law_gcd ["_law_one", "_law_other"] f8 _ := ⟨F8, F8.binds (ps := ["_law_one", "_law_other"]) fun _ _ _ _ _ _ us hl => match us, hl with | [_, _], _ => rfl, PySem.W.mg_of X G a8⟩
  have F9 := fun_mk (st := s__law_turned) l9 c9 k9
  have D9 : DefT K mg "_law_turned" s__law_turned ["_law_look", "_law_steps"] f9 _ := ⟨F9, F9.binds (ps := ["_law_look", "_law_steps"]) fun _ _ _ _ _ _ us hl => match us, hl with | [_, _], _ => rfl, PySem.W.mg_of X G a9⟩
  have F10 := fun_mk (st := s_is_between) l10 c10 k10
  have D10 : DefT K mg "is_between" s_is_between ["thing", "low", "high"] f10 _ := ⟨F10, F10.binds (ps := ["thing", "low", "high"]) fun _ _ _ _ _ _ us hl => match us, hl with | [_, _, _], _ => rfl, PySem.W.mg_of X G a10⟩
  have F11 := fun_mk (st := s_bond) l11 c11 k11
  have D11 : DefT K mg "bond" s_bond ["one", "other"] f11 _ := ⟨F11, F11.binds (ps := ["one", "other"]) fun _ _ _ _ _ _ us hl => match us, hl with | [_, _], _ => rfl, PySem.W.mg_of X G a11⟩
  have F12 := fun_mk (st := s__law_pick) l12 c12 k12
  have D12 : DefT K mg "_law_pick" s__law_pick ["_law_draw", "_law_some"] f12 _ := ⟨F12, F12.binds (ps := ["_law_draw", "_law_some"]) fun _ _ _ _ _ _ us hl => match us, hl with | [_, _], _ => rfl, PySem.W.mg_of X G a12⟩
  have F13 := fun_mk (st := s__law_seen) l13 c13 k13
  have D13 : DefT K mg "_law_seen" s__law_seen ["_law_half_here", "_law_one"] f13 _ := ⟨F13, F13.binds (ps := ["_law_half_here", "_law_one"]) fun _ _ _ _ _ _ us hl => match us, hl with | [_, _], _ => rfl, PySem.W.mg_of X G a13⟩
  have F14 := fun_mk (st := s__law_bond) l14 c14 k14
  have D14 : DefT K mg "_law_bond" s__law_bond ["_law_one", "_law_other"] f14 _ := ⟨F14, F14.binds (ps := ["_law_one", "_law_other"]) fun _ _ _ _ _ _ us hl => match us, hl with | [_, _], _ => rfl, PySem.W.mg_of X G a14⟩
  have F15 := fun_mk (st := s_is_half) l15 c15 k15
  have D15 : DefT K mg "is_half" s_is_half ["thing"] f15 _ := ⟨F15, F15.binds (ps := ["thing"]) fun _ _ _ _ _ _ us hl => match us, hl with | [_], _ => rfl, PySem.W.mg_of X G a15⟩
  have F16 := fun_mk (st := s_clashing_pair) l16 c16 k16
  have D16 : DefT K mg "clashing_pair" s_clashing_pair ["looks"] f16 _ := ⟨F16, F16.binds (ps := ["looks"]) fun _ _ _ _ _ _ us hl => match us, hl with | [_], _ => rfl, PySem.W.mg_of X G a16⟩
  have F17 := fun_mk (st := s_Net_go_through) l17 c17 k17
  have D17 : MethT K o_Net "go_through" "Net.go_through" s_Net_go_through ["self", "first"] f17 _ := ⟨F17, F17.binds (ps := ["self", "first"]) fun _ _ _ _ _ _ us hl => match us, hl with | [_, _], _ => rfl, a17, i17⟩
  have F18 := fun_mk (st := s_Net_odd_ring) l18 c18 k18
  have D18 : MethT K o_Net "odd_ring" "Net.odd_ring" s_Net_odd_ring ["self"] f18 _ := ⟨F18, F18.binds (ps := ["self"]) fun _ _ _ _ _ _ us hl => match us, hl with | [_], _ => rfl, a18, i18⟩
  have F19 := fun_mk (st := s__law_half) l19 c19 k19
  have D19 : DefT K mg "_law_half" s__law_half ["_law_draw"] f19 _ := ⟨F19, F19.binds (ps := ["_law_draw"]) fun _ _ _ _ _ _ us hl => match us, hl with | [_], _ => rfl, PySem.W.mg_of X G a19⟩
  have F20 := fun_mk (st := s__law_fit) l20 c20 k20
  have D20 : DefT K mg "_law_fit" s__law_fit ["_law_sights_here", "_law_number"] f20 _ := ⟨F20, F20.binds (ps := ["_law_sights_here", "_law_number"]) fun _ _ _ _ _ _ us hl => match us, hl with | [_, _], _ => rfl, PySem.W.mg_of X G a20⟩
  have F21 := fun_mk (st := s__law_is_ring) l21 c21 k21
  have D21 : DefT K mg "_law_is_ring" s__law_is_ring ["_law_sights_here", "_law_some"] f21 _ := ⟨F21, F21.binds (ps := ["_law_sights_here", "_law_some"]) fun _ _ _ _ _ _ us hl => match us, hl with | [_, _], _ => rfl, PySem.W.mg_of X G a21⟩
  have F22 := fun_mk (st := s_is_look) l22 c22 k22
  have D22 : DefT K mg "is_look" s_is_look ["thing"] f22 _ := ⟨F22, F22.binds (ps := ["thing"]) fun _ _ _ _ _ _ us hl => match us, hl with | [_], _ => rfl, PySem.W.mg_of X G a22⟩
  have F23 := fun_mk (st := s_Net___init__) l23 c23 k23
  have D23 : MethT K o_Net "__init__" "Net.__init__" s_Net___init__ ["self", "looks"] f23 _ := ⟨F23, F23.binds (ps := ["self", "looks"]) fun _ _ _ _ _ _ us hl => match us, hl with | [_, _], _ => rfl, a23, i23⟩
  have F24 := fun_mk (st := s__law_halves) l24 c24 k24
  have D24 : DefT K mg "_law_halves" s__law_halves ["_law_draw", "_law_many", "_law_most"] f24 _ := ⟨F24, F24.binds (ps := ["_law_draw", "_law_many", "_law_most"]) fun _ _ _ _ _ _ us hl => match us, hl with | [_, _, _], _ => rfl, PySem.W.mg_of X G a24⟩
  have F25 := fun_mk (st := s_need_looks) l25 c25 k25
  have D25 : DefT K mg "need_looks" s_need_looks ["looks"] f25 _ := ⟨F25, F25.binds (ps := ["looks"]) fun _ _ _ _ _ _ us hl => match us, hl with | [_], _ => rfl, PySem.W.mg_of X G a25⟩
  have F26 := fun_mk (st := s__law_sights) l26 c26 k26
  have D26 : DefT K mg "_law_sights" s__law_sights ["_law_draw", "_law_most"] f26 _ := ⟨F26, F26.binds (ps := ["_law_draw", "_law_most"]) fun _ _ _ _ _ _ us hl => match us, hl with | [_, _], _ => rfl, PySem.W.mg_of X G a26⟩
  have F27 := fun_mk (st := s_ring_of) l27 c27 k27
  have D27 : DefT K mg "ring_of" s_ring_of ["looks"] f27 _ := ⟨F27, F27.binds (ps := ["looks"]) fun _ _ _ _ _ _ us hl => match us, hl with | [_], _ => rfl, PySem.W.mg_of X G a27⟩
  have F28 := fun_mk (st := s_is_ring) l28 c28 k28
  have D28 : DefT K mg "is_ring" s_is_ring ["looks", "thing"] f28 _ := ⟨F28, F28.binds (ps := ["looks", "thing"]) fun _ _ _ _ _ _ us hl => match us, hl with | [_, _], _ => rfl, PySem.W.mg_of X G a28⟩
  have F29 := fun_mk (st := s_ring) l29 c29 k29
  have D29 : DefT K mg "ring" s_ring ["looks"] f29 _ := ⟨F29, F29.binds (ps := ["looks"]) fun _ _ _ _ _ _ us hl => match us, hl with | [_], _ => rfl, PySem.W.mg_of X G a29⟩
  have F30 := fun_mk (st := s_fitting) l30 c30 k30
  have D30 : DefT K mg "fitting" s_fitting ["looks"] f30 _ := ⟨F30, F30.binds (ps := ["looks"]) fun _ _ _ _ _ _ us hl => match us, hl with | [_], _ => rfl, PySem.W.mg_of X G a30⟩
  have F31 := fun_mk (st := s__law_round_right) l31 c31 k31
  have D31 : DefT K mg "_law_round_right" s__law_round_right ["_law_draw"] f31 _ := ⟨F31, F31.binds (ps := ["_law_draw"]) fun _ _ _ _ _ _ us hl => match us, hl with | [_], _ => rfl, PySem.W.mg_of X G a31⟩
  have F32 := fun_mk (st := s_law) l32 c32 k32
  have D32 : DefT K mg "law" s_law ["_law_script"] fa _ := ⟨F32, F32.binds (ps := ["_law_script"]) fun _ _ _ _ _ _ us hl => match us, hl with | [_], _ => rfl, PySem.W.mg_of X G a32⟩
  have T : Txt K mg P ⟨0, 0, 0, 0, 0, 0, 0, 0, 0, e_BadLook, 0, 0, 0, 0, 0, 0, 0, 0, o_Net, 0, 0, 0, 0, 0, 0, fun _ => 0⟩ ⟨(f0, (PySem.W.fnOf "is_integer" "is_integer" (defArgs s_is_integer) (defBody s_is_integer) (defScope s_is_integer) .none kV0 dc0 pm0 an0 cd0 ct0)), (f1, (PySem.W.fnOf "divisor" "divisor" (defArgs s_divisor) (defBody s_divisor) (defScope s_divisor) .none kV1 dc1 pm1 an1 cd1 ct1)), (f2, (PySem.W.fnOf "way" "Net.way" (defArgs s_Net_way) (defBody s_Net_way) (defScope s_Net_way) .none kV2 dc2 pm2 an2 cd2 ct2)), (f3, (PySem.W.fnOf "classes" "Net.classes" (defArgs s_Net_classes) (defBody s_Net_classes) (defScope s_Net_classes) .none kV3 dc3 pm3 an3 cd3 ct3)), (f4, (PySem.W.fnOf "_law_begin" "_law_begin" (defArgs s__law_begin) (defBody s__law_begin) (defScope s__law_begin) .none kV4 dc4 pm4 an4 cd4 ct4)), (f5, (PySem.W.fnOf "_law_take" "_law_take" (defArgs s__law_take) (defBody s__law_take) (defScope s__law_take) .none kV5 dc5 pm5 an5 cd5 ct5)), (f6, (PySem.W.fnOf "_law_fraction" "_law_fraction" (defArgs s__law_fraction) (defBody s__law_fraction) (defScope s__law_fraction) .none kV6 dc6 pm6 an6 cd6 ct6)), (f7, (PySem.W.fnOf "_law_lcm" "_law_lcm" (defArgs s__law_lcm) (defBody s__law_lcm) (defScope s__law_lcm) .none kV7 dc7 pm7 an7 cd7 ct7)), (f8, (PySem.W.fnOf "_law_gcd" "_law_gcd" (defArgs s__law_gcd) (defBody s__law_gcd) (defScope s__law_gcd) .none kV8 dc8 pm8 an8 cd8 ct8)), (f9, (PySem.W.fnOf "_law_turned" "_law_turned" (defArgs s__law_turned) (defBody s__law_turned) (defScope s__law_turned) .none kV9 dc9 pm9 an9 cd9 ct9)), (f10, (PySem.W.fnOf "is_between" "is_between" (defArgs s_is_between) (defBody s_is_between) (defScope s_is_between) .none kV10 dc10 pm10 an10 cd10 ct10)), (f11, (PySem.W.fnOf "bond" "bond" (defArgs s_bond) (defBody s_bond) (defScope s_bond) .none kV11 dc11 pm11 an11 cd11 ct11)), (f12, (PySem.W.fnOf "_law_pick" "_law_pick" (defArgs s__law_pick) (defBody s__law_pick) (defScope s__law_pick) .none kV12 dc12 pm12 an12 cd12 ct12)), (f13, (PySem.W.fnOf "_law_seen" "_law_seen" (defArgs s__law_seen) (defBody s__law_seen) (defScope s__law_seen) .none kV13 dc13 pm13 an13 cd13 ct13)), (f14, (PySem.W.fnOf "_law_bond" "_law_bond" (defArgs s__law_bond) (defBody s__law_bond) (defScope s__law_bond) .none kV14 dc14 pm14 an14 cd14 ct14)), (f15, (PySem.W.fnOf "is_half" "is_half" (defArgs s_is_half) (defBody s_is_half) (defScope s_is_half) .none kV15 dc15 pm15 an15 cd15 ct15)), (f16, (PySem.W.fnOf "clashing_pair" "clashing_pair" (defArgs s_clashing_pair) (defBody s_clashing_pair) (defScope s_clashing_pair) .none kV16 dc16 pm16 an16 cd16 ct16)), (f17, (PySem.W.fnOf "go_through" "Net.go_through" (defArgs s_Net_go_through) (defBody s_Net_go_through) (defScope s_Net_go_through) .none kV17 dc17 pm17 an17 cd17 ct17)), (f18, (PySem.W.fnOf "odd_ring" "Net.odd_ring" (defArgs s_Net_odd_ring) (defBody s_Net_odd_ring) (defScope s_Net_odd_ring) .none kV18 dc18 pm18 an18 cd18 ct18)), (f19, (PySem.W.fnOf "_law_half" "_law_half" (defArgs s__law_half) (defBody s__law_half) (defScope s__law_half) .none kV19 dc19 pm19 an19 cd19 ct19)), (f20, (PySem.W.fnOf "_law_fit" "_law_fit" (defArgs s__law_fit) (defBody s__law_fit) (defScope s__law_fit) .none kV20 dc20 pm20 an20 cd20 ct20)), (f21, (PySem.W.fnOf "_law_is_ring" "_law_is_ring" (defArgs s__law_is_ring) (defBody s__law_is_ring) (defScope s__law_is_ring) .none kV21 dc21 pm21 an21 cd21 ct21)), (f22, (PySem.W.fnOf "is_look" "is_look" (defArgs s_is_look) (defBody s_is_look) (defScope s_is_look) .none kV22 dc22 pm22 an22 cd22 ct22)), (f23, (PySem.W.fnOf "__init__" "Net.__init__" (defArgs s_Net___init__) (defBody s_Net___init__) (defScope s_Net___init__) .none kV23 dc23 pm23 an23 cd23 ct23)), (f24, (PySem.W.fnOf "_law_halves" "_law_halves" (defArgs s__law_halves) (defBody s__law_halves) (defScope s__law_halves) .none kV24 dc24 pm24 an24 cd24 ct24)), (f25, (PySem.W.fnOf "need_looks" "need_looks" (defArgs s_need_looks) (defBody s_need_looks) (defScope s_need_looks) .none kV25 dc25 pm25 an25 cd25 ct25)), (f26, (PySem.W.fnOf "_law_sights" "_law_sights" (defArgs s__law_sights) (defBody s__law_sights) (defScope s__law_sights) .none kV26 dc26 pm26 an26 cd26 ct26)), (f27, (PySem.W.fnOf "ring_of" "ring_of" (defArgs s_ring_of) (defBody s_ring_of) (defScope s_ring_of) .none kV27 dc27 pm27 an27 cd27 ct27)), (f28, (PySem.W.fnOf "is_ring" "is_ring" (defArgs s_is_ring) (defBody s_is_ring) (defScope s_is_ring) .none kV28 dc28 pm28 an28 cd28 ct28)), (f29, (PySem.W.fnOf "ring" "ring" (defArgs s_ring) (defBody s_ring) (defScope s_ring) .none kV29 dc29 pm29 an29 cd29 ct29)), (f30, (PySem.W.fnOf "fitting" "fitting" (defArgs s_fitting) (defBody s_fitting) (defScope s_fitting) .none kV30 dc30 pm30 an30 cd30 ct30)), (f31, (PySem.W.fnOf "_law_round_right" "_law_round_right" (defArgs s__law_round_right) (defBody s__law_round_right) (defScope s__law_round_right) .none kV31 dc31 pm31 an31 cd31 ct31)), (fa, (PySem.W.fnOf "law" "law" (defArgs s_law) (defBody s_law) (defScope s_law) .none kV32 dc32 pm32 an32 cd32 ct32))⟩ := ⟨PySem.W.mg_none_of X G z_abs, PySem.W.mg_none_of X G z_all, PySem.W.mg_none_of X G z_bool, PySem.W.mg_none_of X G z_divmod, PySem.W.mg_none_of X G z_enumerate, PySem.W.mg_none_of X G z_int, PySem.W.mg_none_of X G z_isinstance, PySem.W.mg_none_of X G z_len, PySem.W.mg_none_of X G z_list, PySem.W.mg_none_of X G z_max, PySem.W.mg_none_of X G z_min, PySem.W.mg_none_of X G z_range, PySem.W.mg_none_of X G z_set, PySem.W.mg_none_of X G z_sorted, PySem.W.mg_none_of X G z_super, PySem.W.mg_none_of X G z_tuple, c_ALIKE.elim fun t h => ⟨t, PySem.W.mg_of X G h⟩, c_CLASH.elim fun t h => ⟨t, PySem.W.mg_of X G h⟩, c_FREE.elim fun t h => ⟨t, PySem.W.mg_of X G h⟩, c_GREATEST_HALF.elim fun t h => ⟨t, PySem.W.mg_of X G h⟩, c_MOST_LOOKS.elim fun t h => ⟨t, PySem.W.mg_of X G h⟩, c_UNLIKE.elim fun t h => ⟨t, PySem.W.mg_of X G h⟩, ⟨PySem.W.mg_of X G gx_BadLook, PySem.W.mg_none_of X G z_super, ⟨⟨nmBadLook, qnBadLook, NCBadLook, bsBadLook, bmBadLook, snBadLook, subBadLook, abBadLook, colBadLook, ddBadLook, k0BadLook, k1BadLook, k2BadLook, k3BadLook, k5BadLook, xc_BadLook, xr_BadLook⟩, xs_BadLook, xb_BadLook, xt_BadLook, xk_BadLook⟩, fiBadLook, _, initA_mk iw_BadLook xl_BadLook xo_BadLook xd_BadLook xv_BadLook xp_BadLook xe_BadLook xu_BadLook xw_BadLook xm_BadLook x_opq xn_BadLook x_top, xi_BadLook, xf_BadLook⟩, ⟨PySem.W.mg_of X G gc_Net, mk_Net, kc_Net, sf_Net, ⟨kit_self, by simp only [tys, List.mem_cons, List.not_mem_nil, or_false, forall_eq_or_imp, forall_eq]; exact ⟨kit_not ic_Net ty_Net ktNoneType_Net, kit_not ic_Net ty_Net ktbool_Net, kit_not ic_Net ty_Net ktint_Net, kit_not ic_Net ty_Net ktstr_Net, kit_not ic_Net ty_Net kttuple_Net, kit_not ic_Net ty_Net ktlist_Net, kit_not ic_Net ty_Net ktdict_Net⟩, ⟨pg_Net, hd_Net, po_Net, sa_Net⟩, ca_Net, cn_Net, ct_Net, cm_Net⟩⟩, na_Net_n_ahead, na_Net_n_heads, na_Net_n_looks, na_Net_n_signs, D0, D1, D2, D3, D4, D5, D6, D7, D8, D9, D10, D11, D12, D13, D14, D15, D16, D17, D18, D19, D20, D21, D22, D23, D24, D25, D26, D27, D28, D29, D30, D31, D32⟩
  exact ⟨(PySem.W.fnOf "law" "law" (defArgs s_law) (defBody s_law) (defScope s_law) .none kV32 dc32 pm32 an32 cd32 ct32), fun s u => .of_eq rfl, fun base _ _ => ok_law T⟩
end Px
open PySem PySem.W PyProof.Rows
set_option maxHeartbeats 0 in
theorem PySem.Challenge.cw_flashfolds_k07_rings_of_looks_holds : PySem.Challenge.rw_flashfolds_k07_rings_of_looks.Holds := by
  w_on; o_law; k_head; (case hw => w_witness2)
  k_fill
  refine Px.walk_g (l := PySem.Challenge.rw_flashfolds_k07_rings_of_looks) (k := 9) (x := "_law_script") rfl rfl ⟨rfl, by decide, by decide⟩ (fun w h Y => PySem.W.kIn_of Y) ?G
  case G =>
    intro w mg fa h KX G hmg
    refine' Px.all_mk KX G hmg ?gx_BadLook ?xc_BadLook ?xr_BadLook ?xs_BadLook ?xb_BadLook ?xt_BadLook ?xk_BadLook ?xi_BadLook ?xf_BadLook ?xl_BadLook ?xo_BadLook ?xd_BadLook ?xv_BadLook ?xp_BadLook ?xe_BadLook ?xu_BadLook ?xw_BadLook ?xm_BadLook ?xn_BadLook ?x_opq ?x_top ?z_abs ?z_all ?z_bool ?z_divmod ?z_enumerate ?z_int ?z_isinstance ?z_len ?z_list ?z_max ?z_min ?z_range ?z_set ?z_sorted ?z_super ?z_tuple ?c_ALIKE ?c_CLASH ?c_FREE ?c_GREATEST_HALF ?c_MOST_LOOKS ?c_UNLIKE ?gc_Net ?pg_Net ?hd_Net ?po_Net ?sa_Net ?mk_Net ?kc_Net ?sf_Net ?ic_Net ?ty_Net ?ktNoneType_Net ?ktbool_Net ?ktint_Net ?ktstr_Net ?kttuple_Net ?ktlist_Net ?ktdict_Net ?ca_Net ?cn_Net ?ct_Net ?cm_Net ?na_Net_n_ahead ?na_Net_n_heads ?na_Net_n_looks ?na_Net_n_signs ?a0 ?l0 ?c0 ?k0 ?a1 ?l1 ?c1 ?k1 ?a2 ?i2 ?l2 ?c2 ?k2 ?a3 ?i3 ?l3 ?c3 ?k3 ?a4 ?l4 ?c4 ?k4 ?a5 ?l5 ?c5 ?k5 ?a6 ?l6 ?c6 ?k6 ?a7 ?l7 ?c7 ?k7 ?a8 ?l8 ?c8 ?k8 ?a9 ?l9 ?c9 ?k9 ?a10 ?l10 ?c10 ?k10 ?a11 ?l11 ?c11 ?k11 ?a12 ?l12 ?c12 ?k12 ?a13 ?l13 ?c13 ?k13 ?a14 ?l14 ?c14 ?k14 ?a15 ?l15 ?c15 ?k15 ?a16 ?l16 ?c16 ?k16 ?a17 ?i17 ?l17 ?c17 ?k17 ?a18 ?i18 ?l18 ?c18 ?k18 ?a19 ?l19 ?c19 ?k19 ?a20 ?l20 ?c20 ?k20 ?a21 ?l21 ?c21 ?k21 ?a22 ?l22 ?c22 ?k22 ?a23 ?i23 ?l23 ?c23 ?k23 ?a24 ?l24 ?c24 ?k24 ?a25 ?l25 ?c25 ?k25 ?a26 ?l26 ?c26 ?k26 ?a27 ?l27 ?c27 ?k27 ?a28 ?l28 ?c28 ?k28 ?a29 ?l29 ?c29 ?k29 ?a30 ?l30 ?c30 ?k30 ?a31 ?l31 ?c31 ?k31 ?a32 ?l32 ?c32 ?k32
    (case gx_BadLook => k_is)
    (case xc_BadLook => k_is)
    (case xr_BadLook => decide +kernel)
    (case xs_BadLook => k_is)
    (case xb_BadLook => k_is)
    (case xt_BadLook => k_is)
    (case xk_BadLook => k_is)
    (case xi_BadLook => k_is)
    (case xf_BadLook => k_is)
    (case xl_BadLook => k_is)
    (case xo_BadLook => k_is)
    (case xd_BadLook => k_is)
    (case xv_BadLook => exact rfl)
    (case xp_BadLook => first | exact rfl | decide +kernel)
    (case xe_BadLook => k_is)
    (case xu_BadLook => kernel_rfl)
    (case xw_BadLook => k_is)
    (case xm_BadLook => kernel_rfl)
    (case xn_BadLook => k_is)
    (case x_opq => k_is)
    (case x_top => first | exact rfl | decide +kernel)
    (case z_abs => k_is)
    (case z_all => k_is)
    (case z_bool => k_is)
    (case z_divmod => k_is)
    (case z_enumerate => k_is)
    (case z_int => k_is)
    (case z_isinstance => k_is)
    (case z_len => k_is)
    (case z_list => k_is)
    (case z_max => k_is)
    (case z_min => k_is)
    (case z_range => k_is)
    (case z_set => k_is)
    (case z_sorted => k_is)
    (case z_super => k_is)
    (case z_tuple => k_is)
    (case c_ALIKE => exact ⟨_, by k_is⟩)
    (case c_CLASH => exact ⟨_, by k_is⟩)
    (case c_FREE => exact ⟨_, by k_is⟩)
    (case c_GREATEST_HALF => exact ⟨_, by k_is⟩)
    (case c_MOST_LOOKS => exact ⟨_, by k_is⟩)
    (case c_UNLIKE => exact ⟨_, by k_is⟩)
    (case gc_Net => k_is)
    (case pg_Net => k_is)
    (case hd_Net => k_is)
    (case po_Net => k_is)
    (case sa_Net => k_is)
    (case mk_Net => k_is)
    (case kc_Net => k_is)
    (case sf_Net => k_is)
    (case ic_Net => k_is)
    (case ty_Net => k_is)
    (case ktNoneType_Net => k_is)
    (case ktbool_Net => k_is)
    (case ktint_Net => k_is)
    (case ktstr_Net => k_is)
    (case kttuple_Net => k_is)
    (case ktlist_Net => k_is)
    (case ktdict_Net => k_is)
    (case ca_Net => k_is)
    (case cn_Net => k_is)
    (case ct_Net => k_is)
    (case cm_Net => k_is)
    (case na_Net_n_ahead => k_is)
    (case na_Net_n_heads => k_is)
    (case na_Net_n_looks => k_is)
    (case na_Net_n_signs => k_is)
    (case a0 => k_is)
    (case l0 => k_is)
    (case c0 => k_is)
    (case k0 => k_is)
    (case a1 => k_is)
    (case l1 => k_is)
    (case c1 => k_is)
    (case k1 => k_is)
    (case a2 => k_is)
    (case i2 => k_is)
    (case l2 => k_is)
    (case c2 => k_is)
    (case k2 => k_is)
    (case a3 => k_is)
    (case i3 => k_is)
    (case l3 => k_is)
    (case c3 => k_is)
    (case k3 => k_is)
    (case a4 => k_is)
    (case l4 => k_is)
    (case c4 => k_is)
    (case k4 => k_is)
    (case a5 => k_is)
    (case l5 => k_is)
    (case c5 => k_is)
    (case k5 => k_is)
    (case a6 => k_is)
    (case l6 => k_is)
    (case c6 => k_is)
    (case k6 => k_is)
    (case a7 => k_is)
    (case l7 => k_is)
    (case c7 => k_is)
    (case k7 => k_is)
    (case a8 => k_is)
    (case l8 => k_is)
    (case c8 => k_is)
    (case k8 => k_is)
    (case a9 => k_is)
    (case l9 => k_is)
    (case c9 => k_is)
    (case k9 => k_is)
    (case a10 => k_is)
    (case l10 => k_is)
    (case c10 => k_is)
    (case k10 => k_is)
    (case a11 => k_is)
    (case l11 => k_is)
    (case c11 => k_is)
    (case k11 => k_is)
    (case a12 => k_is)
    (case l12 => k_is)
    (case c12 => k_is)
    (case k12 => k_is)
    (case a13 => k_is)
    (case l13 => k_is)
    (case c13 => k_is)
    (case k13 => k_is)
    (case a14 => k_is)
    (case l14 => k_is)
    (case c14 => k_is)
    (case k14 => k_is)
    (case a15 => k_is)
    (case l15 => k_is)
    (case c15 => k_is)
    (case k15 => k_is)
    (case a16 => k_is)
    (case l16 => k_is)
    (case c16 => k_is)
    (case k16 => k_is)
    (case a17 => k_is)
    (case i17 => k_is)
    (case l17 => k_is)
    (case c17 => k_is)
    (case k17 => k_is)
    (case a18 => k_is)
    (case i18 => k_is)
    (case l18 => k_is)
    (case c18 => k_is)
    (case k18 => k_is)
    (case a19 => k_is)
    (case l19 => k_is)
    (case c19 => k_is)
    (case k19 => k_is)
    (case a20 => k_is)
    (case l20 => k_is)
    (case c20 => k_is)
    (case k20 => k_is)
    (case a21 => k_is)
    (case l21 => k_is)
    (case c21 => k_is)
    (case k21 => k_is)
    (case a22 => k_is)
    (case l22 => k_is)
    (case c22 => k_is)
    (case k22 => k_is)
    (case a23 => k_is)
    (case i23 => k_is)
    (case l23 => k_is)
    (case c23 => k_is)
    (case k23 => k_is)
    (case a24 => k_is)
    (case l24 => k_is)
    (case c24 => k_is)
    (case k24 => k_is)
    (case a25 => k_is)
    (case l25 => k_is)
    (case c25 => k_is)
    (case k25 => k_is)
    (case a26 => k_is)
    (case l26 => k_is)
    (case c26 => k_is)
    (case k26 => k_is)
    (case a27 => k_is)
    (case l27 => k_is)
    (case c27 => k_is)
    (case k27 => k_is)
    (case a28 => k_is)
    (case l28 => k_is)
    (case c28 => k_is)
    (case k28 => k_is)
    (case a29 => k_is)
    (case l29 => k_is)
    (case c29 => k_is)
    (case k29 => k_is)
    (case a30 => k_is)
    (case l30 => k_is)
    (case c30 => k_is)
    (case k30 => k_is)
    (case a31 => k_is)
    (case l31 => k_is)
    (case c31 => k_is)
    (case k31 => k_is)
    (case a32 => k_is)
    (case l32 => k_is)
    (case c32 => k_is)
    (case k32 => k_is)
