import PyProof.Rows.All
import Wide.All
import OpenK.AllK
import Wide.FinOn
import HandS.ForMost
import HandS.Wide
import HandS.WideBits
import HandS.IsInst
import HandS.Exc
import HandS.ExcOwn
import HandS.TryOnly
import HandS.WordsExc
import HandS.Conv
import KE.KDictKeyed
import HandS.Lambda
import HandS.ExcIs
import HandS.ExcField
import HandS.TupAny
import HandS.TupMul
import HandS.Flow
import HandS.Style
import HandS.Small
import HandS.Iter
import HandS.TupSets
import KE.GoesEnum
import PyProof.ReprRoads
import PyProof.ReprLen
import HandS.SortRule
import HandS.SetBool
import HandS.Strs
import HandS.EndTab
import KE.KExcIs
import HandS.TryMany
import HandS.Property
import KE.DataFind
import HandS.Deep
import HandS.More
import HandS.Defaults
import HandS.TupLe
import HandS.SlotsOwn
import HandS.Words
import KE.KExcSuper
import HandS.ExcInit
import KE.KFmtOwn
import PyProof.InstNe
import HandS.SetFor
import HandS.Text
import KE.KEqNest
import KE.KDictZip
import KE.KTurns
import HandS.ExcValue
import HandS.Star
import HandS.RaiseMore
import HandS.OwnEq
import PyProof.Rows.SortShellAny
import KE.KDictDisplayH
import KE.SortKeyHeap
import KE.KDictCopyH
import KE.DataMinMax
import HandS.Dict
import PyProof.DictUpdate
import PyProof.DictDisplay
import PyProof.EvalArms
import HandS.Zip
import PyProof.LongRange
import HandS.SetKeys
import KE.KDictWalk
import PySem.Challenge.RW_flashfolds_k52_most_looks_of_programs
set_option Elab.async false
set_option linter.all false
set_option maxRecDepth 100000
namespace Px
open PySem PySem.Spec PyProof.Rows L2
inductive D where
  | non | bl (b : Bool) | int (i : Int) | str (s : Str)
  | tup (l : List D) | lst (l : List D)
  | dic (ks : List Key) (l : List D)
  | obj (C : Addr) (ns : List Str) (l : List D)
  | raw (v : V)
  | scr (ns : List Int)
  | clo (f c : Addr) (q : Str) (xs : List V) (l : List D)
  | fnc (f c : Addr) (q : Str) (o : Obj)
  | exv (a : Addr) (cls : Value) (d : Option Addr) (ns : List Str) (l : List D)
def ExV (cls : Value) (d : Option Addr) (a : Addr) : HO := .ext fun h => ∃ (oe : Obj) (vs : Array Value), h.get? a = some oe ∧ Zc cls d oe ∧ oe.data = .fields vs
def FnO (f : Addr) (o : Obj) : HO := .ext fun h => h.get? f = some o
section
variable (K : PySem.W.Frag) (F : Hp)
mutual
def Rp : D → V → Prop
  | .non, v => v = .non
  | .bl b, v => v = .bl b
  | .int i, v => v = .int i
  | .str s, v => v = .str s
  | .tup l, v => ∃ a xs, v = .ref a ∧ SqT K F a xs ∧ RpL l xs
  | .lst l, v => ∃ a xs, v = .ref a ∧ F a = some (.lst xs) ∧ RpL l xs
  | .dic ks l, v => ∃ a kvs, v = .ref a ∧ Rd F a (.dK kvs) ∧ kvs.map (·.1) = ks ∧ RpL l (kvs.map (·.2))
  | .obj C ns l, v => ∃ a dx fs, v = .ref a ∧ F a = some (.ins C dx fs) ∧ fs.map (·.1) = ns ∧ RpL l (fs.map (·.2))
  | .raw w, v => v = w
  | .scr ns, v => ∃ a, v = .ref a ∧ SqL K F a (ns.map V.int)
  | .clo f c q xs l, v => v = .ref f ∧ F c = some (LamX.CodeO c q) ∧ RpL l xs
  | .fnc f c q o, v => v = .ref f ∧ F f = some (FnO f o) ∧ F c = some (LamX.CodeO c q)
  | .exv a cls d ns l, v => v = .ref a ∧ F a = some (ExV cls d a) ∧ ((d = none ∧ ns = [] ∧ l = []) ∨ ∃ b ys, d = some b ∧ F b = some (.xd ys) ∧ ys.map (·.1) = ns ∧ RpL l (ys.map (·.2)))
def RpL : List D → List V → Prop
  | [], xs => xs = []
  | d :: ds, xs => ∃ x r, xs = x :: r ∧ Rp d x ∧ RpL ds r
end
end
section
variable {K : PySem.W.Frag} {F F' : Hp}
theorem same_rd {a : Addr} {u : HO} (e : Same F F') (h : Rd F a u) : Rd F' a u := by
  rcases h with h | ⟨o, h⟩
  · exact .inl (e a _ h)
  · exact .inr ⟨o, e a _ h⟩
theorem same_l {a : Addr} {xs : List V} (e : Same F F') (h : SqL K F a xs) : SqL K F' a xs := h.elim (fun h => .inl (same_rd e h)) .inr
theorem same_t {a : Addr} {xs : List V} (e : Same F F') (h : SqT K F a xs) : SqT K F' a xs := h.elim (fun h => .inl (same_rd e h)) .inr
mutual
theorem Rp.mono (e : Same F F') : ∀ (d : D) (v : V), Rp K F d v → Rp K F' d v
  | .non, _, h => h
  | .bl _, _, h => h
  | .int _, _, h => h
  | .str _, _, h => h
  | .tup l, _, ⟨a, xs, e1, s, r⟩ => ⟨a, xs, e1, same_t e s, RpL.mono e l xs r⟩
  | .lst l, _, ⟨a, xs, e1, s, r⟩ => ⟨a, xs, e1, e _ _ s, RpL.mono e l xs r⟩
  | .dic _ l, _, ⟨a, xs, e1, s, k, r⟩ => ⟨a, xs, e1, same_rd e s, k, RpL.mono e l _ r⟩
  | .obj _ _ l, _, ⟨a, dx, fs, e1, s, k, r⟩ => ⟨a, dx, fs, e1, e _ _ s, k, RpL.mono e l _ r⟩
  | .raw _, _, h => h
  | .scr _, _, ⟨a, e1, s⟩ => ⟨a, e1, same_l e s⟩
  | .clo _ _ _ xs l, _, ⟨h1, h2, h3⟩ => ⟨h1, e _ _ h2, RpL.mono e l xs h3⟩
  | .fnc _ _ _ _, _, ⟨h1, h2, h3⟩ => ⟨h1, e _ _ h2, e _ _ h3⟩
  | .exv _ _ _ _ l, _, ⟨h1, h2, .inl h3⟩ => ⟨h1, e _ _ h2, .inl h3⟩
  | .exv _ _ _ _ l, _, ⟨h1, h2, .inr ⟨b, ys, h3, h4, h5, h6⟩⟩ => ⟨h1, e _ _ h2, .inr ⟨b, ys, h3, e _ _ h4, h5, RpL.mono e l _ h6⟩⟩
theorem RpL.mono (e : Same F F') : ∀ (ds : List D) (xs : List V), RpL K F ds xs → RpL K F' ds xs
  | [], _, h => h
  | d :: ds, _, ⟨x, r, e1, h, t⟩ => ⟨x, r, e1, Rp.mono e d x h, RpL.mono e ds r t⟩
end
theorem RpL.len : ∀ {ds : List D} {xs : List V}, RpL K F ds xs → ds.length = xs.length
  | [], _, h => by rw [h]; rfl
  | d :: ds, _, ⟨x, r, e1, _, t⟩ => by rw [e1, List.length_cons, List.length_cons, RpL.len t]
theorem RpL.app : ∀ {ds es : List D} {xs ys : List V}, RpL K F ds xs → RpL K F es ys → RpL K F (ds ++ es) (xs ++ ys)
  | [], _, _, _, h, t => by rw [h]; exact t
  | d :: ds, _, _, _, ⟨x, r, e1, h, t⟩, q => by rw [e1]; exact ⟨x, _, rfl, h, RpL.app t q⟩
theorem RpL.get : ∀ {ds : List D} {xs : List V} {i : Nat} {d : D}, RpL K F ds xs → ds[i]? = some d → ∃ x, xs[i]? = some x ∧ Rp K F d x
  | [], _, _, _, _, e => by simp at e
  | d :: ds, _, 0, _, ⟨x, r, e1, h, _⟩, e => by
    have e2 : d = _ := Option.some.inj e
    exact ⟨x, by rw [e1]; rfl, e2 ▸ h⟩
  | d :: ds, _, i + 1, _, ⟨x, r, e1, _, t⟩, e => by
    obtain ⟨y, h1, h2⟩ := RpL.get (i := i) t (by simpa using e)
    exact ⟨y, by rw [e1]; simpa using h1, h2⟩
theorem RpL.drop : ∀ {ds : List D} {xs : List V} (i : Nat), RpL K F ds xs → RpL K F (ds.drop i) (xs.drop i)
  | _, _, 0, h => h
  | [], _, i + 1, h => by rw [h]; exact rfl
  | d :: ds, _, i + 1, ⟨x, r, e1, _, t⟩ => by rw [e1]; exact RpL.drop i t
theorem RpL.take : ∀ {ds : List D} {xs : List V} (i : Nat), RpL K F ds xs → RpL K F (ds.take i) (xs.take i)
  | _, _, 0, h => rfl
  | [], _, i + 1, h => by rw [h]; exact rfl
  | d :: ds, _, i + 1, ⟨x, r, e1, h, t⟩ => by rw [e1]; exact ⟨x, _, rfl, h, RpL.take i t⟩
theorem RpL.set : ∀ {ds : List D} {xs : List V} {d : D} {x : V} (i : Nat), RpL K F ds xs → Rp K F d x → RpL K F (ds.set i d) (xs.set i x)
  | [], _, _, _, _, h, _ => by rw [h]; exact rfl
  | _ :: ds, _, _, _, 0, ⟨x, r, e1, _, t⟩, q => by rw [e1]; exact ⟨_, _, rfl, q, t⟩
  | _ :: ds, _, _, _, i + 1, ⟨x, r, e1, h, t⟩, q => by rw [e1]; exact ⟨x, _, rfl, h, RpL.set i t q⟩
theorem RpL.ints : ∀ {ns : List Int} {xs : List V}, RpL K F (ns.map .int) xs → xs = ns.map V.int
  | [], _, h => h
  | n :: ns, _, ⟨x, r, e1, h, t⟩ => by rw [e1, show x = V.int n from h, RpL.ints t]; rfl
theorem RpL.of_ints : ∀ (ns : List Int), RpL K F (ns.map .int) (ns.map V.int)
  | [] => rfl
  | n :: ns => ⟨_, _, rfl, rfl, RpL.of_ints ns⟩
theorem RpL.bls : ∀ {ns : List Bool} {xs : List V}, RpL K F (ns.map .bl) xs → xs = ns.map V.bl
  | [], _, h => h
  | n :: ns, _, ⟨x, r, e1, h, t⟩ => by rw [e1, show x = V.bl n from h, RpL.bls t]; rfl
end
inductive Sv where
  | val (d : D) | own (l : List D) | bag (d : D) (b : List (Addr × List D))
  | dct (c : Addr) (kvs : List (D × D)) (b : List (Addr × List D))
inductive Mo where
  | draw
  | dct (kvs : List (D × D))
  | lst (l : List D)
  | dik (kvs : List (Key × D))
  | ins (C : Addr) (fs : List (Str × D))
  | tab (q : Str)
  | any (u : PySem.W.Frag → Addr → Hp → HO → Prop)
  | kn (u : PySem.W.Frag → Addr → Hp → Prop)
abbrev Mm := Addr → Option Mo
inductive Ow where
  | slot (i : Nat) | obj (a : Addr) | tmp
abbrev Rho := List (Option Sv)
abbrev Own := Addr → Option Ow
def gt : Rho → Nat → Option Sv
  | [], _ => none
  | x :: _, 0 => x
  | _ :: r, n + 1 => gt r n
def st : Rho → Nat → Sv → Rho
  | [], _, _ => []
  | _ :: r, 0, y => some y :: r
  | x :: r, n + 1, y => x :: st r n y
theorem st_len : ∀ (ρ : Rho) (i : Nat) (y : Sv), (st ρ i y).length = ρ.length
  | [], _, _ => rfl
  | _ :: r, 0, _ => rfl
  | x :: r, n + 1, y => by show (st r n y).length + 1 = _; rw [st_len r n y]; rfl
theorem gt_lt : ∀ {ρ : Rho} {i : Nat} {y : Sv}, gt ρ i = some y → i < ρ.length
  | [], _, _, h => by cases h
  | _ :: r, 0, _, _ => Nat.succ_pos _
  | x :: r, n + 1, y, h => Nat.succ_lt_succ (gt_lt (ρ := r) h)
theorem gt_st_ne : ∀ {ρ : Rho} {i j : Nat} {y : Sv}, j ≠ i → gt (st ρ i y) j = gt ρ j
  | [], _, _, _, _ => rfl
  | _ :: r, 0, 0, _, h => absurd rfl h
  | _ :: r, 0, j + 1, _, _ => rfl
  | x :: r, n + 1, 0, _, _ => rfl
  | x :: r, n + 1, j + 1, y, h => gt_st_ne (ρ := r) fun e => h (by rw [e])
theorem gt_st_self : ∀ {ρ : Rho} {i : Nat} {y z : Sv}, gt (st ρ i y) i = some z → z = y
  | [], _, _, _, h => by cases h
  | _ :: r, 0, _, _, h => (Option.some.inj h).symm
  | x :: r, n + 1, y, z, h => gt_st_self (ρ := r) h
section
variable (K : PySem.W.Frag)
def drawKeys (l : Addr) (c : V) (rest turn mix : Int) : List (Key × V) :=
  [(.inr "large", .ref l), (.inr "cells", c), (.inr "rest", .int rest), (.inr "turn", .int turn), (.inr "mix", .int mix)]
mutual
def nkOf : D → Option NestedKey
  | .non => some .none
  | .bl b => some (.num (if b = true then 1 else 0))
  | .int i => some (.num i)
  | .tup l => (nkOfL l).map .tup
  | .str _ | .lst _ | .dic _ _ | .obj _ _ _ | .raw _ | .scr _ | .clo _ _ _ _ _ | .fnc _ _ _ _ | .exv _ _ _ _ _ => none
def nkOfL : List D → Option (List NestedKey)
  | [] => some []
  | d :: r => match nkOf d, nkOfL r with
    | some a, some b => some (a :: b)
    | _, _ => none
end
mutual
def ntK : NestedKey → Bool
  | .none => true
  | .num _ => true
  | .text _ => false
  | .tup ks => ntKL ks
def ntKL : List NestedKey → Bool
  | [] => true
  | k :: r => ntK k && ntKL r
end
abbrev KEnts := List (NestedKey × Addr × Value)
def dkP (p : Addr) (xs : KEnts) (h : Heap) : Prop := (p == sysModules) = false ∧ (∀ x ∈ xs, ntK x.1 = true) ∧ (xs.map (·.1)).Nodup ∧ ∃ o es ep, h.get? p = some o ∧ o.ExactDict ∧ o.data = .dict es ep ∧
  ∀ w : World, es.toList = xs.map fun x => ⟨x.1.hash w, .ref x.2.1, x.2.2⟩
def dkO (p : Addr) (xs : KEnts) : HO := .ext (dkP p xs)
def DRel (F : Hp) : List (D × D) → KEnts → Prop
  | [], xs => xs = []
  | p :: r, xs => ∃ x ys v, xs = x :: ys ∧ nkOf p.1 = some x.1 ∧ x.1.depth ≤ 8 ∧ Rp K F p.1 (.ref x.2.1) ∧ Rp K F p.2 v ∧ RelV v x.2.2 ∧ DRel F r ys
def SvOk (F : Hp) (H : Hp) (O : Own) (i : Nat) : Sv → V → Prop
  | .val d, v => Rp K F d v
  | .own l, v => ∃ p xs, v = .ref p ∧ H p = some (.lst xs) ∧ RpL K F l xs ∧ O p = some (.slot i)
  | .bag d b, v => Rp K F d v ∧ (b.map (·.1)).Nodup ∧ ∀ q ∈ b, ∃ xs, H q.1 = some (.lst xs) ∧ RpL K F q.2 xs ∧ O q.1 = some (.slot i)
  | .dct c kvs b, v => v = .ref c ∧ O c = some (.slot i) ∧ (∃ xs, H c = some (dkO c xs) ∧ kvs.length ≤ 1000000 ∧ DRel K F kvs xs) ∧ (b.map (·.1)).Nodup ∧ ∀ q ∈ b, ∃ xs, H q.1 = some (.lst xs) ∧ RpL K F q.2 xs ∧ O q.1 = some (.slot i)
def ExOk (F : Hp) (d : Option Addr) (fs : List (Str × D)) : Prop :=
  match d with
  | none => fs = []
  | some a => ∃ ys : List (Str × V), F a = some (.xd ys) ∧ ys.map (·.1) = fs.map (·.1) ∧ RpL K F (fs.map (·.2)) (ys.map (·.2))
def MoOk (F : Hp) (H : Hp) (O : Own) (a : Addr) : Mo → Prop
  | .tab q => ∃ ps : Array Value, H a = some (.tbl ps) ∧ O a = some (.obj a) ∧ TriplesOk ps.toList ∧ ∀ (pos : Pos) (cv : Value), codeAmong pos ps.toList = some cv → ∃ c, cv = .ref c ∧ F c = some (LamX.CodeO c q)
  | .dct kvs => ∃ xs, H a = some (dkO a xs) ∧ O a = some (.obj a) ∧ kvs.length ≤ 1000000 ∧ DRel K F kvs xs
  | .lst l => ∃ xs, H a = some (.lst xs) ∧ O a = some (.obj a) ∧ RpL K F l xs
  | .kn u => ∃ F0, Same F0 F ∧ (∃ o, F0 a = some o) ∧ u K a F0
  | .any u => ∃ F0 o, Same F0 F ∧ H a = some o ∧ O a = some (.obj a) ∧ u K a F0 o
  | .dik kvs => ∃ ys, H a = some (.dK ys) ∧ O a = some (.obj a) ∧ ys.map (·.1) = kvs.map (·.1) ∧ RpL K F (kvs.map (·.2)) (ys.map (·.2))
  | .ins C fs => ∃ dx ys, H a = some (.ins C dx ys) ∧ O a = some (.obj a) ∧ ys.map (·.1) = fs.map (·.1) ∧ RpL K F (fs.map (·.2)) (ys.map (·.2))
  | .draw => ∃ (l : Addr) (big cells : List Int) (c : V) (rest turn mix : Int), H a = some (.dK (drawKeys l c rest turn mix)) ∧ H l = some (.lst (big.map V.int)) ∧ Rp K F (.lst (cells.map .int)) c ∧
      O a = some (.obj a) ∧ O l = some (.obj a) ∧ big.length ≤ 63 ∧ cells.length ≤ 63 ∧ 0 ≤ mix ∧ mix < 2147483629
structure Gh where
  H0 : Hp
  F0 : Hp
  own0 : Addr → Prop
  tmp : List (Addr × List D) := []
structure Wd (g : Gh) (H : Hp) (M : Mm) (F : Hp) (O : Own) : Prop where
  sub : Same F H
  ext0 : Same g.F0 F
  new : ∀ a o, F a = some o → g.F0 a = some o ∨ g.H0 a = none
  frm : ∀ a o, g.H0 a = some o → ¬ g.own0 a → H a = some o
  thr : ∀ a o, g.H0 a = some o → ∃ o', H a = some o'
  liv : ∀ a o, O a = some o → (∃ x, H a = some x) ∧ F a = none ∧ (g.own0 a ∨ g.H0 a = none)
  slo : ∀ a o, O a = some o → (∀ m, o ≠ .obj m) → g.H0 a = none
  tm : ∀ p l, (p, l) ∈ g.tmp → ∃ xs, H p = some (.lst xs) ∧ RpL K F l xs ∧ O p = some .tmp
  mu : ∀ a mo, M a = some mo → MoOk K F H O a mo
structure Ab (g : Gh) (σ : L2.St) (H : Hp) (ρ : Rho) (M : Mm) (F : Hp) (O : Own) : Prop extends Wd K g H M F O where
  len : ρ.length = σ.length
  sl : ∀ i sv, gt ρ i = some sv → ∃ v, σ[i]? = some (some v) ∧ SvOk K F H O i sv v
end
abbrev PQ := D → Mm → Prop
abbrev PX := Value → List (Str × D) → Mm → Prop
abbrev PWi := Value → List (Str × D) → Rho → Mm → Prop
abbrev PTE := PWi → Rho → Mm → PQ → Prop
abbrev PTT := PWi → Rho → Mm → (Bool → Mm → Prop) → Prop
abbrev PTA := PWi → Rho → Mm → (List D → Mm → Prop) → Prop
structure PEnds where
  nx : Rho → Mm → Prop
  rt : D → Mm → Prop
  bk : Rho → Mm → Prop := fun _ _ => False
  ct : Rho → Mm → Prop := fun _ _ => False
  rl : List D → Mm → Prop := fun _ _ => False
abbrev PTS := PWi → PEnds → Rho → Mm → Prop
def WOk (K : PySem.W.Frag) (g : Gh) (F : Hp) (W : WX) (w : PWi) : Prop :=
  ∀ cls dd σ H ρ M F' O fs, Ab K g σ H ρ M F' O → Same F F' → ExOk K F' dd fs → w cls fs ρ M → W cls dd σ H
theorem WOk.mono {K : PySem.W.Frag} {g : Gh} {F F' : Hp} {W : WX} {w : PWi} (h : WOk K g F W w) (e : Same F F') : WOk K g F' W w :=
  fun cls dd σ H ρ M F2 O fs a s x y => h cls dd σ H ρ M F2 O fs a (e.trans s) x y
def real (K : PySem.W.Frag) (W : WX) (p : PTE) : TE := fun σ H Q => ∃ g ρ M F O q w, Ab K g σ H ρ M F O ∧ p w ρ M q ∧ WOk K g F W w ∧
  ∀ v H' F' O' M' d, Ab K g σ H' ρ M' F' O' → Same F F' → Rp K F' d v → q d M' → Q v H'
def realT (K : PySem.W.Frag) (W : WX) (p : PTT) : TT := fun σ H Q => ∃ g ρ M F O q w, Ab K g σ H ρ M F O ∧ p w ρ M q ∧ WOk K g F W w ∧
  ∀ b H' F' O' M', Ab K g σ H' ρ M' F' O' → Same F F' → q b M' → Q b H'
def realA (K : PySem.W.Frag) (W : WX) (p : PTA) : TA := fun σ H Q => ∃ g ρ M F O q w, Ab K g σ H ρ M F O ∧ p w ρ M q ∧ WOk K g F W w ∧
  ∀ vs H' F' O' M' ds, Ab K g σ H' ρ M' F' O' → Same F F' → RpL K F' ds vs → q ds M' → Q vs H'
def realS (K : PySem.W.Frag) (W : WX) (p : PTS) : TS := fun D σ H => ∃ g ρ M F O P w, Ab K g σ H ρ M F O ∧ p w P ρ M ∧ WOk K g F W w ∧
  (∀ σ' H' ρ' M' F' O', Ab K g σ' H' ρ' M' F' O' → Same F F' → P.nx ρ' M' → D.nx σ' H') ∧
  (∀ v σ' H' ρ' M' F' O' d, Ab K g σ' H' ρ' M' F' O' → Same F F' → Rp K F' d v → P.rt d M' → D.rt v H') ∧
  (∀ σ' H' ρ' M' F' O', Ab K g σ' H' ρ' M' F' O' → Same F F' → P.bk ρ' M' → D.bk σ' H') ∧
  (∀ σ' H' ρ' M' F' O', Ab K g σ' H' ρ' M' F' O' → Same F F' → P.ct ρ' M' → D.ct σ' H') ∧
  (∀ a xs σ' H' ρ' M' F' O' ds, Ab K g σ' H' ρ' M' F' O' → Same F F' → H' a = some (.lst xs) → RpL K F' ds xs → F' a = none → O' a = none → g.H0 a = none → P.rl ds M' → D.rt (.ref a) H')
abbrev DE (X : Cx) (W : WX) (e : Expr) (p : PTE) : Prop := PE X e (real X.K W p)
abbrev DT (X : Cx) (W : WX) (e : Expr) (p : PTT) : Prop := PT X e (realT X.K W p)
abbrev DA (X : Cx) (W : WX) (es : List Expr) (p : PTA) : Prop := PA X es (realA X.K W p)
abbrev DS (X : Cx) (W : WX) (s : Stmt) (p : PTS) : Prop := PS X s (realS X.K W p)
abbrev DSs (X : Cx) (W : WX) (s : List Stmt) (p : PTS) : Prop := PSs X s (realS X.K W p)
section
variable {X : Cx} {e : Expr} {t t' : TE} {es : List Expr} {s : Stmt} {ss : List Stmt}
theorem pe_imp (h : PE X e t) (i : ∀ σ H Q, t' σ H Q → t σ H Q) : PE X e t' := ⟨fun pins s σ H Q I hw => h.run pins s σ H Q I (i σ H Q hw)⟩
theorem pt_imp {t t' : TT} (h : PT X e t) (i : ∀ σ H Q, t' σ H Q → t σ H Q) : PT X e t' := ⟨fun pins s σ H Q I hw => h.run pins s σ H Q I (i σ H Q hw)⟩
theorem pw_imp {t t' : TT} (h : L2.PW X e t) (i : ∀ σ H Q, t' σ H Q → t σ H Q) : L2.PW X e t' := ⟨fun wh pins s σ H Q I hw => h.run wh pins s σ H Q I (i σ H Q hw)⟩
theorem pa_imp {t t' : TA} (h : PA X es t) (i : ∀ σ H Q, t' σ H Q → t σ H Q) : PA X es t' := ⟨fun pos pins s σ H Q I hw => h.run pos pins s σ H Q I (i σ H Q hw)⟩
theorem ps_imp {t t' : TS} (h : PS X s t) (i : ∀ D σ H, t' D σ H → t D σ H) : PS X s t' := ⟨fun pins s σ H D I hw => h.run pins s σ H D I (i D σ H hw)⟩
theorem pss_imp {t t' : TS} (h : PSs X ss t) (i : ∀ D σ H, t' D σ H → t D σ H) : PSs X ss t' := ⟨fun pins s σ H D I hw => h.run pins s σ H D I (i D σ H hw)⟩
end
end Px
set_option Elab.async false
set_option linter.all false
set_option maxRecDepth 100000
namespace Px
open PySem PySem.Spec PyProof.Rows L2
section
variable {K : PySem.W.Frag} {g : Gh} {σ : L2.St} {H H' : Hp} {ρ : Rho} {M : Mm} {F F' : Hp} {O O' : Own} {a p : Addr} {o : HO} {i : Nat}
theorem DRel.mono (e : Same F F') : ∀ (kvs : List (D × D)) (xs : KEnts), DRel K F kvs xs → DRel K F' kvs xs
  | [], _, h => h
  | p :: r, _, ⟨x, ys, v, e1, e2, e3, e4, e5, e6, e7⟩ => ⟨x, ys, v, e1, e2, e3, Rp.mono e _ _ e4, Rp.mono e _ _ e5, e6, DRel.mono e r ys e7⟩
theorem SvOk.mono {sv : Sv} {v : V} (e : Same F F') (k : ∀ p u, H p = some u → O p = some (.slot i) → H' p = some u ∧ O' p = some (.slot i)) (h : SvOk K F H O i sv v) : SvOk K F' H' O' i sv v := by
  cases sv with
  | val d => exact Rp.mono e d v h
  | own l =>
    obtain ⟨p, xs, e1, e2, r, e3⟩ := h
    obtain ⟨k1, k2⟩ := k p _ e2 e3
    exact ⟨p, xs, e1, k1, RpL.mono e l xs r, k2⟩
  | bag d b =>
    obtain ⟨h1, h2, h3⟩ := h
    refine ⟨Rp.mono e d v h1, h2, fun q hq => ?_⟩
    obtain ⟨xs, e1, r, e2⟩ := h3 q hq
    obtain ⟨k1, k2⟩ := k q.1 _ e1 e2
    exact ⟨xs, k1, RpL.mono e _ xs r, k2⟩
  | dct c kvs b =>
    obtain ⟨h1, h2, ⟨xs, h3, h4, h5⟩, h6, h7⟩ := h
    refine ⟨h1, (k c _ h3 h2).2, ⟨xs, (k c _ h3 h2).1, h4, DRel.mono e _ _ h5⟩, h6, fun q hq => ?_⟩
    obtain ⟨ys, e1, r, e2⟩ := h7 q hq
    obtain ⟨k1, k2⟩ := k q.1 _ e1 e2
    exact ⟨ys, k1, RpL.mono e _ ys r, k2⟩
theorem ExOk.mono {d : Option Addr} {fs : List (Str × D)} (e : Same F F') (h : ExOk K F d fs) : ExOk K F' d fs := by
  cases d with
  | none => exact h
  | some a =>
    obtain ⟨ys, h1, h2, h3⟩ := h
    exact ⟨ys, e _ _ h1, h2, RpL.mono e _ _ h3⟩
theorem MoOk.mono {mo : Mo} (e : Same F F') (k : ∀ p u, H p = some u → O p = some (.obj a) → H' p = some u ∧ O' p = some (.obj a)) (h : MoOk K F H O a mo) : MoOk K F' H' O' a mo := by
  cases mo with
  | dct kvs =>
    obtain ⟨xs, h1, h2, h3, h4⟩ := h
    exact ⟨xs, (k _ _ h1 h2).1, (k _ _ h1 h2).2, h3, DRel.mono e _ _ h4⟩
  | lst l =>
    obtain ⟨xs, h1, h2, h3⟩ := h
    exact ⟨xs, (k _ _ h1 h2).1, (k _ _ h1 h2).2, RpL.mono e _ _ h3⟩
  | kn u =>
    obtain ⟨F0, h1, h2, h3⟩ := h
    exact ⟨F0, h1.trans e, h2, h3⟩
  | any u =>
    obtain ⟨F0, o, h1, h2, h3, h4⟩ := h
    exact ⟨F0, o, h1.trans e, (k _ _ h2 h3).1, (k _ _ h2 h3).2, h4⟩
  | dik kvs =>
    obtain ⟨ys, h1, h2, h3, h4⟩ := h
    exact ⟨ys, (k _ _ h1 h2).1, (k _ _ h1 h2).2, h3, RpL.mono e _ _ h4⟩
  | ins C fs =>
    obtain ⟨dx, ys, h1, h2, h3, h4⟩ := h
    exact ⟨dx, ys, (k _ _ h1 h2).1, (k _ _ h1 h2).2, h3, RpL.mono e _ _ h4⟩
  | tab q =>
    obtain ⟨ps, h1, h2, h3, h4⟩ := h
    refine ⟨ps, (k _ _ h1 h2).1, (k _ _ h1 h2).2, h3, fun pos cv hc => ?_⟩
    obtain ⟨c, e1, e2⟩ := h4 pos cv hc
    exact ⟨c, e1, e _ _ e2⟩
  | draw =>
    obtain ⟨l, big, cells, c, rest, turn, mix, h1, h2, h3, h4, h5, h6⟩ := h
    exact ⟨l, big, cells, c, rest, turn, mix, (k _ _ h1 h4).1, (k _ _ h2 h5).1, Rp.mono e _ _ h3, (k _ _ h1 h4).2, (k _ _ h2 h5).2, h6⟩
theorem Wd.g0 (A : Wd K g H M F O) (h : H p = none) : g.H0 p = none := by
  cases e : g.H0 p with
  | none => rfl
  | some o =>
    obtain ⟨o', z⟩ := A.thr p o e
    rw [h] at z
    cases z
theorem Wd.f0 (A : Wd K g H M F O) (h : H p = none) : F p = none := by
  cases e : F p with
  | none => rfl
  | some o => rw [A.sub p o e] at h; cases h
theorem Wd.o0 (A : Wd K g H M F O) (h : H p = none) : O p = none := by
  cases e : O p with
  | none => rfl
  | some o =>
    obtain ⟨⟨x, z⟩, _⟩ := A.liv p o e
    rw [h] at z
    cases z
theorem MoOk.at {mo : Mo} {p : Addr} (sm : Same F H) (h : MoOk K F H O p mo) : ∃ u, H p = some u := by
  cases mo with
  | kn u => obtain ⟨_, q1, ⟨o, q2⟩, _⟩ := h; exact ⟨o, sm _ _ (q1 _ _ q2)⟩
  | draw => obtain ⟨_, _, _, _, _, _, _, q1, _⟩ := h; exact ⟨_, q1⟩
  | dct kvs => obtain ⟨_, q1, _⟩ := h; exact ⟨_, q1⟩
  | lst l => obtain ⟨_, q1, _⟩ := h; exact ⟨_, q1⟩
  | any u => obtain ⟨_, _, _, q1, _⟩ := h; exact ⟨_, q1⟩
  | dik kvs => obtain ⟨_, q1, _⟩ := h; exact ⟨_, q1⟩
  | ins C fs => obtain ⟨_, _, q1, _⟩ := h; exact ⟨_, q1⟩
  | tab q => obtain ⟨_, q1, _⟩ := h; exact ⟨_, q1⟩
theorem Wd.m0 (A : Wd K g H M F O) (h : H p = none) : M p = none := by
  cases z : M p with
  | none => rfl
  | some mo =>
    obtain ⟨u, e⟩ := (A.mu p mo z).at A.sub
    rw [h] at e; cases e
theorem Ab.laid (A : Ab K g σ H ρ M F O) (h : H p = none) : Ab K g σ (upd H p o) ρ M F O := by
  have ne : ∀ b u, H b = some u → b ≠ p := fun b u e z => by rw [z, h] at e; cases e
  have up : ∀ b u, H b = some u → upd H p o b = some u := fun b u e => by rw [upd_ne (ne b u e)]; exact e
  exact { sub := fun b u e => up b u (A.sub b u e), ext0 := A.ext0, new := A.new, frm := fun b u e n => up b u (A.frm b u e n), thr := fun b u e => by
            obtain ⟨o', z⟩ := A.thr b u e
            exact ⟨o', up b o' z⟩
          liv := fun b u e => by
            obtain ⟨⟨x, z⟩, r⟩ := A.liv b u e
            exact ⟨⟨x, up b x z⟩, r⟩
          slo := A.slo, tm := fun q l e => by
            obtain ⟨xs, e1, e2, e3⟩ := A.tm q l e
            exact ⟨xs, up q _ e1, e2, e3⟩
          mu := fun b mo e => (A.mu b mo e).mono (Same.refl F) fun q u e1 e2 => ⟨up q u e1, e2⟩, len := A.len, sl := fun j sv e => by
            obtain ⟨v, e1, r⟩ := A.sl j sv e
            exact ⟨v, e1, r.mono (Same.refl F) fun q xs e1 e2 => ⟨up q _ e1, e2⟩⟩ }
theorem same_new (h : F p = none) : Same F (upd F p o) := fun b u e => by
  rw [upd_ne (fun z => by rw [z, h] at e; cases e)]
  exact e
theorem Ab.freeze (A : Ab K g σ H ρ M F O) (h : H p = some o) (hF : F p = none) (hO : O p = none) (h0 : g.H0 p = none) : Ab K g σ H ρ M (upd F p o) O := by
  have s : Same F (upd F p o) := same_new hF
  exact { sub := fun b u e => by
            by_cases z : b = p
            · subst z; rw [upd_same] at e; rw [h]; exact e
            · rw [upd_ne z] at e; exact A.sub b u e
          ext0 := A.ext0.trans s, new := fun b u e => by
            by_cases z : b = p
            · subst z; exact .inr h0
            · rw [upd_ne z] at e; exact A.new b u e
          frm := A.frm, thr := A.thr, liv := fun b u e => by
            obtain ⟨r1, r2, r3⟩ := A.liv b u e
            refine ⟨r1, ?_, r3⟩
            rw [upd_ne (fun z => by rw [z, hO] at e; cases e)]
            exact r2
          slo := A.slo, tm := fun q l e => by
            obtain ⟨xs, e1, e2, e3⟩ := A.tm q l e
            exact ⟨xs, e1, RpL.mono s _ _ e2, e3⟩
          mu := fun b mo e => (A.mu b mo e).mono s fun q u e1 e2 => ⟨e1, e2⟩, len := A.len, sl := fun j sv e => by
            obtain ⟨v, e1, r⟩ := A.sl j sv e
            exact ⟨v, e1, r.mono s fun q xs e1 e2 => ⟨e1, e2⟩⟩ }
theorem Ab.lay (A : Ab K g σ H ρ M F O) (h : H p = none) : Ab K g σ (upd H p o) ρ M (upd F p o) O :=
  (A.laid h).freeze upd_same (A.f0 h) (A.o0 h) (A.g0 h)
theorem Ab.gt_lt (A : Ab K g σ H ρ M F O) {sv : Sv} (e : gt ρ i = some sv) : i < σ.length := by
  rw [← A.len]
  exact Px.gt_lt e
theorem set_same {x : V} (h : i < σ.length) : (σ.set i (some x))[i]? = some (some x) := List.getElem?_set_self h
theorem gt_st_lt {sv y : Sv} (e : gt (st ρ i y) i = some sv) : i < ρ.length := by rw [← st_len ρ i y]; exact Px.gt_lt e
theorem Ab.put {d : D} {v : V} (A : Ab K g σ H ρ M F O) (r : Rp K F d v) : Ab K g (σ.set i (some v)) H (st ρ i (.val d)) M F O :=
  { toWd := A.toWd, len := by rw [st_len, List.length_set]; exact A.len, sl := fun j sv e => by
      by_cases z : j = i
      · subst z
        have e2 := gt_st_self e
        subst e2
        exact ⟨v, set_same (by rw [← A.len]; exact gt_st_lt e), r⟩
      · rw [gt_st_ne z] at e
        obtain ⟨u, e1, q⟩ := A.sl j sv e
        exact ⟨u, by rw [List.getElem?_set_ne (Ne.symm z)]; exact e1, q⟩ }
theorem Ab.putOwn {l : List D} {xs : List V} (A : Ab K g σ H ρ M F O) (h : H p = some (.lst xs)) (r : RpL K F l xs) (hF : F p = none) (hO : O p = none) (h0 : g.H0 p = none) :
    Ab K g (σ.set i (some (.ref p))) H (st ρ i (.own l)) M F (fun b => if b = p then some (.slot i) else O b) := by
  have keep : ∀ b u, O b = some u → (if b = p then some (Ow.slot i) else O b) = some u := fun b u e => by rw [if_neg (fun z => by rw [z, hO] at e; cases e)]; exact e
  exact { sub := A.sub, ext0 := A.ext0, new := A.new, frm := A.frm, thr := A.thr
          liv := fun b u e => by
            by_cases z : b = p
            · subst z; exact ⟨⟨_, h⟩, hF, .inr h0⟩
            · rw [if_neg z] at e; exact A.liv b u e
          slo := fun b j e n => by
            by_cases z : b = p
            · subst z; exact h0
            · rw [if_neg z] at e; exact A.slo b j e n
          tm := fun q l e => by
            obtain ⟨xs, e1, e2, e3⟩ := A.tm q l e
            exact ⟨xs, e1, e2, keep q _ e3⟩
          mu := fun b mo e => (A.mu b mo e).mono (Same.refl F) fun q u e1 e2 => ⟨e1, keep q _ e2⟩
          len := by rw [st_len, List.length_set]; exact A.len
          sl := fun j sv e => by
            by_cases z : j = i
            · subst z
              have e2 := gt_st_self e
              subst e2
              exact ⟨.ref p, set_same (by rw [← A.len]; exact gt_st_lt e), p, xs, rfl, h, r, if_pos rfl⟩
            · rw [gt_st_ne z] at e
              obtain ⟨u, e1, q⟩ := A.sl j sv e
              exact ⟨u, by rw [List.getElem?_set_ne (Ne.symm z)]; exact e1, q.mono (Same.refl F) fun q xs e1 e2 => ⟨e1, keep q _ e2⟩⟩ }
theorem Ab.chg {l l' : List D} {xs ys : List V} (A : Ab K g σ H ρ M F O) (hi : gt ρ i = some (.own l)) (hp : σ[i]? = some (some (.ref p))) (hO : O p = some (.slot i)) (r : RpL K F l' ys) :
    Ab K g σ (upd H p (.lst ys)) (st ρ i (.own l')) M F O := by
  have ne : ∀ b u, O b = some u → u ≠ .slot i → b ≠ p := fun b u e n z => by rw [z, hO] at e; exact n (Option.some.inj e).symm
  obtain ⟨⟨ox, hx⟩, hF, _⟩ := A.liv p _ hO
  exact { sub := fun b u e => by rw [upd_ne (fun z => by rw [z, hF] at e; cases e)]; exact A.sub b u e
          ext0 := A.ext0, new := A.new
          frm := fun b u e n => by rw [upd_ne (fun z => by rw [z, A.slo p _ hO (fun _ z => by cases z)] at e; cases e)]; exact A.frm b u e n
          thr := fun b u e => by rw [upd_ne (fun z => by rw [z, A.slo p _ hO (fun _ z => by cases z)] at e; cases e)]; exact A.thr b u e
          liv := fun b u e => by
            obtain ⟨r1, r2⟩ := A.liv b u e
            refine ⟨?_, r2⟩
            by_cases z : b = p
            · subst z; exact ⟨_, upd_same⟩
            · rw [upd_ne z]; exact r1
          slo := A.slo
          tm := fun q l e => by
            obtain ⟨xs, e1, e2, e3⟩ := A.tm q l e
            exact ⟨xs, by rw [upd_ne (ne q _ e3 (fun z => by cases z))]; exact e1, e2, e3⟩
          mu := fun b mo e => (A.mu b mo e).mono (Same.refl F) fun q u e1 e2 => ⟨by rw [upd_ne (ne q _ e2 (fun z => by cases z))]; exact e1, e2⟩
          len := by rw [st_len]; exact A.len
          sl := fun j sv e => by
            by_cases z : j = i
            · subst z
              have e2 := gt_st_self e
              subst e2
              exact ⟨.ref p, hp, p, ys, rfl, upd_same, r, hO⟩
            · rw [gt_st_ne z] at e
              obtain ⟨u, e1, q⟩ := A.sl j sv e
              exact ⟨u, e1, q.mono (Same.refl F) fun q xs e1 e2 => ⟨by rw [upd_ne (ne q _ e2 (fun y => z (by cases y; rfl)))]; exact e1, e2⟩⟩ }
theorem Ab.frz {l : List D} (A : Ab K g σ H ρ M F O) (hi : gt ρ i = some (.own l)) : ∃ F' O', Ab K g σ H (st ρ i (.val (.lst l))) M F' O' ∧ Same F F' := by
  obtain ⟨v, hv, p, xs, rfl, hp, r, hO⟩ := A.sl i _ hi
  obtain ⟨_, hF, _⟩ := A.liv p _ hO
  have s : Same F (upd F p (.lst xs)) := same_new hF
  have ne : ∀ b u, O b = some u → u ≠ .slot i → b ≠ p := fun b u e n z => by rw [z, hO] at e; exact n (Option.some.inj e).symm
  refine ⟨upd F p (.lst xs), fun b => if b = p then none else O b, ?_, s⟩
  exact { sub := fun b u e => by
            by_cases z : b = p
            · subst z; rw [upd_same] at e; rw [hp]; exact e
            · rw [upd_ne z] at e; exact A.sub b u e
          ext0 := A.ext0.trans s
          new := fun b u e => by
            by_cases z : b = p
            · subst z; exact .inr (A.slo _ _ hO (fun _ z => by cases z))
            · rw [upd_ne z] at e; exact A.new b u e
          frm := A.frm, thr := A.thr
          liv := fun b u e => by
            by_cases z : b = p
            · rw [if_pos z] at e; cases e
            · rw [if_neg z] at e
              obtain ⟨r1, r2, r3⟩ := A.liv b u e
              exact ⟨r1, by rw [upd_ne z]; exact r2, r3⟩
          slo := fun b j e n => by
            by_cases z : b = p
            · rw [if_pos z] at e; cases e
            · rw [if_neg z] at e; exact A.slo b j e n
          tm := fun q l e => by
            obtain ⟨xs, e1, e2, e3⟩ := A.tm q l e
            exact ⟨xs, e1, RpL.mono s _ _ e2, by rw [if_neg (ne q _ e3 (fun z => by cases z))]; exact e3⟩
          mu := fun b mo e => (A.mu b mo e).mono s fun q u e1 e2 => ⟨e1, by rw [if_neg (ne q _ e2 (fun z => by cases z))]; exact e2⟩
          len := by rw [st_len]; exact A.len
          sl := fun j sv e => by
            by_cases z : j = i
            · subst z
              have e2 := gt_st_self e
              subst e2
              exact ⟨.ref p, hv, p, xs, rfl, upd_same, RpL.mono s l xs r⟩
            · rw [gt_st_ne z] at e
              obtain ⟨u, e1, q⟩ := A.sl j sv e
              exact ⟨u, e1, q.mono s fun q xs e1 e2 => ⟨e1, by rw [if_neg (ne q _ e2 (fun y => z (by cases y; rfl)))]; exact e2⟩⟩ }
end
def Vw (K : PySem.W.Frag) (σ : L2.St) (ρ : Rho) (F : Hp) (d : D) (v : V) : Prop :=
  Rp K F d v ∨ ∃ i l p, gt ρ i = some (.own l) ∧ σ[i]? = some (some (.ref p)) ∧ v = .ref p ∧ d = .lst l
section
variable {K : PySem.W.Frag} {g : Gh} {σ : L2.St} {H : Hp} {ρ : Rho} {M : Mm} {F F' : Hp} {O : Own} {d : D} {v : V}
theorem Vw.mono (e : Same F F') (h : Vw K σ ρ F d v) : Vw K σ ρ F' d v := h.elim (fun h => .inl (Rp.mono e d v h)) .inr
theorem Vw.int {i : Int} (h : Vw K σ ρ F (.int i) v) : v = .int i := by
  rcases h with h | ⟨_, _, _, _, _, _, h⟩
  · exact h
  · cases h
theorem Vw.bl {i : Bool} (h : Vw K σ ρ F (.bl i) v) : v = .bl i := by
  rcases h with h | ⟨_, _, _, _, _, _, h⟩
  · exact h
  · cases h
theorem Vw.str {i : Str} (h : Vw K σ ρ F (.str i) v) : v = .str i := by
  rcases h with h | ⟨_, _, _, _, _, _, h⟩
  · exact h
  · cases h
theorem Vw.non (h : Vw K σ ρ F .non v) : v = .non := by
  rcases h with h | ⟨_, _, _, _, _, _, h⟩
  · exact h
  · cases h
theorem Vw.lst {l : List D} (A : Ab K g σ H ρ M F O) (h : Vw K σ ρ F (.lst l) v) : ∃ a xs, v = .ref a ∧ H a = some (.lst xs) ∧ RpL K F l xs := by
  rcases h with ⟨a, xs, e, s, r⟩ | ⟨i, l', p, h1, h2, h3, h4⟩
  · exact ⟨a, xs, e, A.sub _ _ s, r⟩
  · cases h4
    obtain ⟨u, e1, q, xs, e2, e3, r, e4⟩ := A.sl i _ h1
    rw [h2] at e1
    cases e1
    cases e2
    exact ⟨p, xs, h3, e3, r⟩
theorem Vw.scr {l : List Int} (A : Ab K g σ H ρ M F O) (h : Vw K σ ρ F (.scr l) v) : ∃ a, v = .ref a ∧ SqL K H a (l.map V.int) := by
  rcases h with ⟨a, e, s⟩ | ⟨_, _, _, _, _, _, h⟩
  · exact ⟨a, e, same_l A.sub s⟩
  · cases h
theorem Vw.tupF {l : List D} (h : Vw K σ ρ F (.tup l) v) : ∃ a xs, v = .ref a ∧ SqT K F a xs ∧ RpL K F l xs := by
  rcases h with h | ⟨_, _, _, _, _, _, h⟩
  · exact h
  · cases h
theorem Vw.tup {l : List D} (A : Ab K g σ H ρ M F O) (h : Vw K σ ρ F (.tup l) v) : ∃ a xs, v = .ref a ∧ SqT K H a xs ∧ RpL K F l xs := by
  rcases h with ⟨a, xs, e, s, r⟩ | ⟨_, _, _, _, _, _, h⟩
  · exact ⟨a, xs, e, same_t A.sub s, r⟩
  · cases h
end
def realO (K : PySem.W.Frag) (W : WX) (p : PTE) : TE := fun σ H Q => ∃ g ρ M F O q w, Ab K g σ H ρ M F O ∧ p w ρ M q ∧ WOk K g F W w ∧
  ∀ v H' F' O' M' d, Ab K g σ H' ρ M' F' O' → Same F F' → Vw K σ ρ F' d v → q d M' → Q v H'
abbrev DO (X : Cx) (W : WX) (e : Expr) (p : PTE) : Prop := PE X e (realO X.K W p)
def realL (K : PySem.W.Frag) (W : WX) (p : PTA) : TE := fun σ H Q => ∃ g ρ M F O q w, Ab K g σ H ρ M F O ∧ p w ρ M q ∧ WOk K g F W w ∧
  ∀ a xs H' F' O' M' ds, Ab K g σ H' ρ M' F' O' → Same F F' → H' a = some (.lst xs) → RpL K F' ds xs → F' a = none → O' a = none → g.H0 a = none → q ds M' → Q (.ref a) H'
abbrev DL (X : Cx) (W : WX) (e : Expr) (p : PTA) : Prop := PE X e (realL X.K W p)
def dL (p : PTA) : PTE := fun w ρ M q => p w ρ M fun ds M' => q (.lst ds) M'
section
variable {X : Cx} {W : WX} {a b c e : Expr} {es : List Expr} {pa pb pc : PTE} {pl : PTA} {pos : Pos}
theorem do_of (h : DE X W e pa) : DO X W e pa := pe_imp h fun σ H Q ⟨g, ρ, M, F, O, q, w, A, p, hw, k⟩ =>
  ⟨g, ρ, M, F, O, q, w, A, p, hw, fun v H' F' O' M' d A' s r q => k v H' F' O' M' d A' s (.inl r) q⟩
theorem de_l (h : DL X W e pl) : DE X W e (dL pl) := pe_imp h fun σ H Q ⟨g, ρ, M, F, O, q, w, A, p, hw, k⟩ =>
  ⟨g, ρ, M, F, O, _, w, A, p, hw, fun a xs H' F' O' M' ds A' s hH r hF hO h0 q =>
    have s2 : Same F' (upd F' a (.lst xs)) := same_new hF
    k (.ref a) H' _ O' M' (.lst ds) (A'.freeze hH hF hO h0) (s.trans s2) ⟨a, xs, rfl, upd_same, RpL.mono s2 ds xs r⟩ q⟩
def dVar (i : Nat) : PTE := fun _ ρ M q => match gt ρ i with | some (.val d) => q d M | _ => False
def dOwn (i : Nat) : PTE := fun _ ρ M q => match gt ρ i with | some (.val d) => q d M | some (.own l) => q (.lst l) M | _ => False
theorem dv (i : Nat) {x : Str} {pos : Pos} (hN : X.N[i]? = some x := by rfl) (hv : Vis X.env.scope x := by first | exact Or.inl rfl | exact Or.inr (Or.inl rfl) | exact Or.inr (Or.inr rfl)) (hd : (x == ("__debug__" : Str)) = false := by decide)
    (hcd : (x == ("__classdict__" : Str)) = false := by decide) : DE X W (.Name x pos) (dVar i) := pe_imp (pv i hN hv hd hcd) fun σ H Q ⟨g, ρ, M, F, O, q, w, A, p, hw, k⟩ => by
  unfold dVar at p
  split at p
  · rename_i d e
    obtain ⟨v, e1, r⟩ := A.sl i _ e
    exact ⟨v, e1, k v H F O M d A (Same.refl F) r p⟩
  · exact p.elim
theorem dn (i : Nat) {x : Str} {pos : Pos} (hN : X.N[i]? = some x := by rfl) (hv : Vis X.env.scope x := by first | exact Or.inl rfl | exact Or.inr (Or.inl rfl) | exact Or.inr (Or.inr rfl)) (hd : (x == ("__debug__" : Str)) = false := by decide)
    (hcd : (x == ("__classdict__" : Str)) = false := by decide) : DO X W (.Name x pos) (dOwn i) := pe_imp (pv i hN hv hd hcd) fun σ H Q ⟨g, ρ, M, F, O, q, w, A, p, hw, k⟩ => by
  unfold dOwn at p
  split at p
  · rename_i d e
    obtain ⟨v, e1, r⟩ := A.sl i _ e
    exact ⟨v, e1, k v H F O M d A (Same.refl F) (.inl r) p⟩
  · rename_i l e
    obtain ⟨v, e1, a, xs, rfl, h2, r, h3⟩ := A.sl i _ e
    exact ⟨.ref a, e1, k (.ref a) H F O M (.lst l) A (Same.refl F) (.inr ⟨i, l, a, e, e1, rfl, rfl⟩) p⟩
  · exact p.elim
def dC (d : D) : PTE := fun _ _ M q => q d M
theorem dc_of {v : V} {d : D} (h : PE X e (tC v)) (hr : ∀ F, Rp X.K F d v) : DE X W e (dC d) := pe_imp h fun σ H Q ⟨g, ρ, M, F, O, q, w, A, p, hw, k⟩ => k v H F O M d A (Same.refl F) (hr F) p
theorem de_int {i : Int} {j : Nat} : DE X W (.Constant (.int i) j pos) (dC (.int i)) := dc_of pe_int fun _ => rfl
theorem de_bl {i : Bool} {j : Nat} : DE X W (.Constant (.bool i) j pos) (dC (.bl i)) := dc_of pe_bl fun _ => rfl
theorem de_non {j : Nat} : DE X W (.Constant .none j pos) (dC .non) := dc_of pe_non fun _ => rfl
theorem de_str {x : Str} {j : Nat} : DE X W (.Constant (.str x) j pos) (dC (.str x)) := dc_of pe_str fun _ => rfl
theorem de_gint {x : Str} {i : Int} {t : Tok} (hg : Gl X x) (hm : X.mg x = some (.int i t)) (hd : (x == ("__debug__" : Str)) = false := by decide) : DE X W (.Name x pos) (dC (.int i)) := dc_of (v := .int i) (pe_glob hg hm (show RelV (.int i) _ from ⟨t, rfl⟩) hd) fun _ => rfl
theorem de_gstr {x y : Str} {t : Tok} (hg : Gl X x) (hm : X.mg x = some (.str y t)) (hd : (x == ("__debug__" : Str)) = false := by decide) : DE X W (.Name x pos) (dC (.str y)) := dc_of (v := .str y) (pe_glob hg hm (show RelV (.str y) _ from ⟨t, rfl⟩) hd) fun _ => rfl
abbrev F2 := D → D → (D → Prop) → Prop
def OpF (K : PySem.W.Frag) (r : R2) (f : F2) : Prop := ∀ g σ H ρ M F O x y v u (k : D → Prop) (Q : VK), Ab K g σ H ρ M F O → Vw K σ ρ F x v → Vw K σ ρ F y u → f x y k →
  (∀ z w H' F' O', Ab K g σ H' ρ M F' O' → Same F F' → Rp K F' z w → k z → Q w H') → r v u H Q
def dOp (f : F2) (pa pb : PTE) : PTE := fun w ρ M q => pa w ρ M fun x M1 => pb w ρ M1 fun y M2 => f x y fun z => q z M2
theorem op_run {r : R2} {f : F2} (hf : OpF X.K r f) {σ : L2.St} {H : Hp} {Q : VK} (h : real X.K W (dOp f pa pb) σ H Q) : tOp r (realO X.K W pa) (realO X.K W pb) σ H Q := by
  obtain ⟨g, ρ, M, F, O, q, w, A, p, hw, k⟩ := h
  exact ⟨g, ρ, M, F, O, _, w, A, p, hw, fun v H1 F1 O1 M1 d A1 s1 r1 q1 => ⟨g, ρ, M1, F1, O1, _, w, A1, q1, hw.mono s1, fun u H2 F2 O2 M2 e A2 s2 r2 q2 =>
    hf g σ H2 ρ M2 F2 O2 d e v u _ Q A2 (r1.mono s2) r2 q2 fun z w3 H3 F3 O3 A3 s3 r3 q3 => k w3 H3 F3 O3 M2 z A3 ((s1.trans s2).trans s3) r3 q3⟩⟩
theorem de_op {op : Operator} {r : R2} {f : F2} (ho : OpR X (binaryOp op) r) (hf : OpF X.K r f) (ha : DO X W a pa) (hb : DO X W b pb) : DE X W (.BinOp a op b pos) (dOp f pa pb) := pe_imp (pe_op ho ha hb) fun σ H Q h => op_run hf h
theorem de_cmp {op : CmpOp} {r : R2} {f : F2} (ho : OpR X (compareOp op) r) (hf : OpF X.K r f) (ha : DO X W a pa) (hb : DO X W b pb) (hm : behindInMarks op b = false) : DE X W (.Compare a [op] [b] pos) (dOp f pa pb) := pe_imp (pe_cmpR ho ha hb hm) fun σ H Q h => op_run hf h
def isB (d : D) (k : Bool → Prop) : Prop := match d with | .bl b => k b | _ => False
def dTst (p : PTE) : PTT := fun w ρ M q => p w ρ M fun d M' => isB d fun b => q b M'
theorem isB_run {F : Hp} {K : PySem.W.Frag} {d : D} {v : V} {k : Bool → Prop} (r : Rp K F d v) (h : isB d k) : ∃ b, v = .bl b ∧ k b := by
  unfold isB at h
  split at h
  · exact ⟨_, r, h⟩
  · exact h.elim
theorem tst_run {t : TE} {p : PTE} (h : ∀ σ H Q, real X.K W p σ H Q → t σ H Q) {σ : L2.St} {H : Hp} {Q : Bool → Hp → Prop} (hh : realT X.K W (dTst p) σ H Q) : tTest t σ H Q := by
  obtain ⟨g, ρ, M, F, O, q, w, A, p, hw, k⟩ := hh
  refine h σ H _ ⟨g, ρ, M, F, O, _, w, A, p, hw, fun v H1 F1 O1 M1 d A1 s1 r1 q1 => ?_⟩
  obtain ⟨b, e, q2⟩ := isB_run r1 q1
  exact ⟨b, e, k b H1 F1 O1 M1 A1 s1 q2⟩
theorem dt_cmp {op : CmpOp} {r : R2} {f : F2} (ho : OpR X (compareOp op) r) (hf : OpF X.K r f) (ha : DO X W a pa) (hb : DO X W b pb) (hm : behindInMarks op b = false) : DT X W (.Compare a [op] [b] pos) (dTst (dOp f pa pb)) :=
  pt_imp (pt_cmpR ho ha hb hm) fun σ H Q h => tst_run (t := tOp r (realO X.K W pa) (realO X.K W pb)) (fun _ _ _ h => op_run hf h) h
theorem dt_val (h : DE X W e pa) (he : ∀ whole, isTrue e X.env whole = (do let v ← whole; standAt e.pos; holding [v] (truthy v)) := by intro _; rfl) : DT X W e (dTst pa) := pt_imp (pt_val h he) fun σ H Q hh => tst_run (t := real X.K W pa) (fun _ _ _ h => h) hh
def dChain (f f' : F2) (pa pb pc : PTE) : PTE := fun w ρ M q => pa w ρ M fun x M1 => pb w ρ M1 fun y M2 => f x y fun z => isB z fun k => if k = true then pc w ρ M2 fun u M3 => f' y u fun z => q z M3 else q (.bl false) M2
theorem chain_run {r r' : R2} {f f' : F2} (hf : OpF X.K r f) (hf' : OpF X.K r' f') {σ : L2.St} {H : Hp} {Q : VK} (h : real X.K W (dChain f f' pa pb pc) σ H Q) : tChain r r' (realO X.K W pa) (realO X.K W pb) (realO X.K W pc) σ H Q := by
  obtain ⟨g, ρ, M, F, O, q, w, A, p, hw, k⟩ := h
  refine ⟨g, ρ, M, F, O, _, w, A, p, hw, fun v H1 F1 O1 M1 d A1 s1 r1 q1 => ⟨g, ρ, M1, F1, O1, _, w, A1, q1, hw.mono s1, fun u H2 F2 O2 M2 e A2 s2 r2 q2 =>
    hf g σ H2 ρ M2 F2 O2 d e v u _ _ A2 (r1.mono s2) r2 q2 fun z w3 H3 F3 O3 A3 s3 r3 q3 => ?_⟩⟩
  obtain ⟨b, eb, q4⟩ := isB_run r3 q3
  refine ⟨b, eb, ?_⟩
  cases b with
  | true =>
    exact ⟨g, ρ, M2, F3, O3, _, w, A3, q4, hw.mono ((s1.trans s2).trans s3), fun u4 H4 F4 O4 M4 e4 A4 s4 r4 q5 =>
      hf' g σ H4 ρ M4 F4 O4 e e4 u u4 _ Q A4 (r2.mono (s3.trans s4)) r4 q5 fun z5 w5 H5 F5 O5 A5 s5 r5 q5 => k w5 H5 F5 O5 M4 z5 A5 ((((s1.trans s2).trans s3).trans s4).trans s5) r5 q5⟩
  | false => exact k (.bl false) H3 F3 O3 M2 (.bl false) A3 ((s1.trans s2).trans s3) rfl q4
theorem de_chain {op op' : CmpOp} {r r' : R2} {f f' : F2} (ho : OpR X (compareOp op) r) (hf : OpF X.K r f) (ho' : OpR X (compareOp op') r') (hf' : OpF X.K r' f') (ha : DO X W a pa) (hb : DO X W b pb) (hc : DO X W c pc)
    (hm : lastMarks [op, op'] [b, c] = false := by with_unfolding_all rfl) : DE X W (.Compare a [op, op'] [b, c] pos) (dChain f f' pa pb pc) := pe_imp (pe_chain ho ho' ha hb hc hm) fun σ H Q h => chain_run hf hf' h
theorem dt_chain {op op' : CmpOp} {r r' : R2} {f f' : F2} (ho : OpR X (compareOp op) r) (hf : OpF X.K r f) (ho' : OpR X (compareOp op') r') (hf' : OpF X.K r' f') (ha : DO X W a pa) (hb : DO X W b pb) (hc : DO X W c pc)
    (hm : lastMarks [op, op'] [b, c] = false := by with_unfolding_all rfl) : DT X W (.Compare a [op, op'] [b, c] pos) (dTst (dChain f f' pa pb pc)) := pt_imp (pt_chain ho ho' ha hb hc hm) fun σ H Q h => tst_run (t := tChain r r' (realO X.K W pa) (realO X.K W pb) (realO X.K W pc)) (fun _ _ _ h => chain_run hf hf' h) h
end
end Px
set_option Elab.async false
set_option linter.all false
set_option maxRecDepth 100000
namespace Px
open PySem PySem.Spec PyProof.Rows L2
def fAdd : F2
  | .int i, .int j, k => k (.int (i + j))
  | .lst a, .lst b, k => a.length + b.length ≤ 1000000 ∧ k (.lst (a ++ b))
  | .tup a, .tup b, k => a.length + b.length ≤ 1000000 ∧ k (.tup (a ++ b))
  | .str a, .str b, k => a.length + b.length ≤ 1000000 ∧ k (.str (a ++ b))
  | _, _, _ => False
def fSub : F2
  | .int i, .int j, k => k (.int (i - j))
  | _, _, _ => False
def fMul : F2
  | .int i, .int j, k => CMulX i j ∧ k (.int (i * j))
  | .lst a, .int n, k => -1000000 ≤ n ∧ n ≤ 1000000 ∧ a.length * n.toNat ≤ 1000000 ∧ k (.lst (List.replicate n.toNat a).flatten)
  | _, _, _ => False
def fDiv : F2
  | .int i, .int j, k => CDivW i j ∧ k (.int (i / j))
  | _, _, _ => False
def fMod : F2
  | .int i, .int j, k => 0 < j ∧ k (.int (i % j))
  | _, _, _ => False
def fPow : F2
  | .int i, .int j, k => CPow i j ∧ k (.int (i ^ j.toNat))
  | _, _, _ => False
def fCmp (p : Int → Int → Bool) : F2
  | .int i, .int j, k => k (.bl (p i j))
  | _, _, _ => False
abbrev fLt : F2 := fCmp fun i j => decide (i < j)
abbrev fLe : F2 := fCmp fun i j => decide (i ≤ j)
abbrev fGt : F2 := fCmp fun i j => decide (j < i)
abbrev fGe : F2 := fCmp fun i j => decide (j ≤ i)
theorem line_big {n : Nat} (h : n ≤ 1000000) : n ≤ sizeLine := Nat.le_trans h (by decide)
section
variable {X : Cx} {K : PySem.W.Frag}
theorem RpL.flat {F : Hp} {ds : List D} {xs : List V} (h : RpL K F ds xs) : ∀ n : Nat, RpL K F (List.replicate n ds).flatten (List.replicate n xs).flatten
  | 0 => rfl
  | n + 1 => by rw [List.replicate_succ, List.replicate_succ, List.flatten_cons, List.flatten_cons]; exact h.app (RpL.flat h n)
theorem OpF.new {g : Gh} {σ : L2.St} {H : Hp} {ρ : Rho} {M : Mm} {F : Hp} {O : Own} {Q : VK} {o : HO} {d : D} {k : D → Prop} (A : Ab K g σ H ρ M F O) (c : ∀ z w H' F' O', Ab K g σ H' ρ M F' O' → Same F F' → Rp K F' z w → k z → Q w H')
    (hk : k d) (hr : ∀ p, (upd F p o) p = some o → Same F (upd F p o) → Rp K (upd F p o) d (.ref p)) : ∀ p, H p = none → Q (.ref p) (upd H p o) := fun p hp =>
  have s := same_new (o := o) (A.f0 hp)
  c d (.ref p) _ _ _ (A.lay hp) s (hr p upd_same s) hk
theorem opf_add : OpF K (fun x y H Q => rI0 (fun i j => .int (i + j)) x y H Q ∨ rCat x y H Q ∨ rCatA K x y H Q ∨ ∃ i j, x = .str i ∧ y = .str j ∧ i.length + j.length ≤ sizeLine ∧ Q (.str (i ++ j)) H) fAdd := by
  intro g σ H ρ M F O x y v u k Q A rx ry h c
  unfold fAdd at h
  split at h
  · rename_i i j
    exact .inl ⟨i, j, rx.int, ry.int, c (.int (i + j)) _ H F O A (Same.refl F) rfl h⟩
  · rename_i a b
    obtain ⟨p, xs, e1, h1, r1⟩ := rx.lst A
    obtain ⟨q, ys, e2, h2, r2⟩ := ry.lst A
    obtain ⟨hz, hk⟩ := h
    exact .inr (.inl ⟨p, q, xs, ys, e1, e2, h1, h2, by rw [← r1.len, ← r2.len]; exact line_big hz, OpF.new A c hk fun p e s => ⟨p, _, rfl, e, (RpL.mono s _ _ r1).app (RpL.mono s _ _ r2)⟩⟩)
  · rename_i a b
    obtain ⟨p, xs, e1, h1, r1⟩ := rx.tupF
    obtain ⟨q, ys, e2, h2, r2⟩ := ry.tupF
    obtain ⟨hz, hk⟩ := h
    refine .inr (.inr (.inl ⟨p, q, xs, ys, e1, e2, same_t A.sub h1, same_t A.sub h2, by rw [← r1.len, ← r2.len]; exact line_big hz, fun e => ?_, fun _ e => ?_, fun _ _ => ?_⟩))
    · subst e
      have ea : a = [] := List.length_eq_zero_iff.mp r1.len
      subst ea
      exact c (.tup b) _ H F O A (Same.refl F) ⟨q, ys, rfl, h2, r2⟩ hk
    · subst e
      have eb : b = [] := List.length_eq_zero_iff.mp r2.len
      subst eb
      rw [List.append_nil] at hk
      exact c (.tup a) _ H F O A (Same.refl F) ⟨p, xs, rfl, h1, r1⟩ hk
    · exact OpF.new A c hk fun p e s => ⟨p, _, rfl, .inl (.inl e), (RpL.mono s _ _ r1).app (RpL.mono s _ _ r2)⟩
  · rename_i a b
    obtain ⟨hz, hk⟩ := h
    exact .inr (.inr (.inr ⟨a, b, rx.str, ry.str, line_big hz, c (.str (a ++ b)) _ H F O A (Same.refl F) rfl hk⟩))
  · exact h.elim
theorem o_add : OpR X (binaryOp .Add) (fun x y H Q => rI0 (fun i j => .int (i + j)) x y H Q ∨ rCat x y H Q ∨ rCatA X.K x y H Q ∨ ∃ i j, x = .str i ∧ y = .str j ∧ i.length + j.length ≤ sizeLine ∧ Q (.str (i ++ j)) H) :=
  op_add.or (op_cat.or (op_catA.or op_add_str))
theorem opf_i {C : Int → Int → Prop} {h : Int → Int → V} {h' : Int → Int → D} {f : F2} (hh : ∀ F i j, Rp K F (h' i j) (h i j)) (hf : ∀ x y k, f x y k → ∃ i j, x = .int i ∧ y = .int j ∧ C i j ∧ k (h' i j)) : OpF K (rI C h) f := by
  intro g σ H ρ M F O x y v u k Q A rx ry h c
  obtain ⟨i, j, rfl, rfl, hc, hk⟩ := hf x y k h
  exact ⟨i, j, rx.int, ry.int, hc, c _ _ H F O A (Same.refl F) (hh F i j) hk⟩
theorem opf_i0 {h : Int → Int → V} {h' : Int → Int → D} {f : F2} (hh : ∀ F i j, Rp K F (h' i j) (h i j)) (hf : ∀ x y k, f x y k → ∃ i j, x = .int i ∧ y = .int j ∧ k (h' i j)) : OpF K (rI0 h) f := by
  intro g σ H ρ M F O x y v u k Q A rx ry h c
  obtain ⟨i, j, rfl, rfl, hk⟩ := hf x y k h
  exact ⟨i, j, rx.int, ry.int, c _ _ H F O A (Same.refl F) (hh F i j) hk⟩
theorem opf_sub : OpF K (rI0 fun i j => .int (i - j)) fSub := opf_i0 (h' := fun i j => .int (i - j)) (fun _ _ _ => rfl) fun x y k h => by
  unfold fSub at h
  split at h
  · exact ⟨_, _, rfl, rfl, h⟩
  · exact h.elim
theorem opf_div : OpF K (rI CDivW fun i j => .int (i / j)) fDiv := opf_i (h' := fun i j => .int (i / j)) (fun _ _ _ => rfl) fun x y k h => by
  unfold fDiv at h
  split at h
  · exact ⟨_, _, rfl, rfl, h⟩
  · exact h.elim
theorem opf_mod : OpF K (rI (fun _ j => 0 < j) fun i j => .int (i % j)) fMod := opf_i (h' := fun i j => .int (i % j)) (fun _ _ _ => rfl) fun x y k h => by
  unfold fMod at h
  split at h
  · exact ⟨_, _, rfl, rfl, h⟩
  · exact h.elim
theorem opf_pow : OpF K (rI CPow fun i j => .int (i ^ j.toNat)) fPow := opf_i (h' := fun i j => .int (i ^ j.toNat)) (fun _ _ _ => rfl) fun x y k h => by
  unfold fPow at h
  split at h
  · exact ⟨_, _, rfl, rfl, h⟩
  · exact h.elim
theorem opf_cmp {p : Int → Int → Bool} : OpF K (rI0 fun i j => .bl (p i j)) (fCmp p) := opf_i0 (h' := fun i j => .bl (p i j)) (fun _ _ _ => rfl) fun x y k h => by
  unfold fCmp at h
  split at h
  · exact ⟨_, _, rfl, rfl, h⟩
  · exact h.elim
theorem opf_mul : OpF K (fun x y H Q => rI CMulX (fun i j => .int (i * j)) x y H Q ∨ rRep x y H Q) fMul := by
  intro g σ H ρ M F O x y v u k Q A rx ry h c
  unfold fMul at h
  split at h
  · rename_i i j
    exact .inl ⟨i, j, rx.int, ry.int, h.1, c (.int (i * j)) _ H F O A (Same.refl F) rfl h.2⟩
  · rename_i a n
    obtain ⟨p, xs, e1, h1, r1⟩ := rx.lst A
    obtain ⟨z1, z2, z3, hk⟩ := h
    exact .inr ⟨p, n, xs, e1, ry.int, h1, by omega, by omega, by rw [← r1.len]; exact line_big z3, OpF.new A c hk fun p e s => ⟨p, _, rfl, e, (RpL.mono s _ _ r1).flat _⟩⟩
  · exact h.elim
theorem o_mul : OpR X (binaryOp .Mult) (fun x y H Q => rI CMulX (fun i j => .int (i * j)) x y H Q ∨ rRep x y H Q) := op_mulX.or op_rep
mutual
def toPy : D → PyData
  | .non => .none
  | .bl b => .bool b
  | .int i => .int i
  | .str s => .str s
  | .tup l => .tuple (toPyL l)
  | .lst l => .list (toPyL l)
  | .dic _ _ => .none
  | .obj _ _ _ => .none
  | .raw _ => .none
  | .scr _ => .none
  | .clo _ _ _ _ _ => .none
  | .fnc _ _ _ _ => .none
  | .exv _ _ _ _ _ => .none
def toPyL : List D → List PyData
  | [] => []
  | d :: ds => toPy d :: toPyL ds
end
def okD : Nat → D → Bool
  | _, .non => true
  | _, .bl _ => true
  | _, .int _ => true
  | _, .str s => PyData.strOk s
  | n + 1, .tup l => l.all (okD n)
  | n + 1, .lst l => l.all (okD n)
  | _, _ => false
def okP : Nat → D → Prop
  | _, .non => True
  | _, .bl _ => True
  | _, .int _ => True
  | _, .str s => PyData.strOk s = true
  | n + 1, .tup l => ∀ d ∈ l, okP n d
  | n + 1, .lst l => ∀ d ∈ l, okP n d
  | _, _ => False
theorem okP_of : ∀ (n : Nat) (d : D), okD n d = true → okP n d := by
  intro n
  induction n with
  | zero =>
    intro d h
    cases d <;> first | trivial | exact h | (cases h)
  | succ n ih =>
    intro d h
    cases d with
    | tup l => exact fun d hd => ih d (List.all_eq_true.mp (show l.all (okD n) = true from h) d hd)
    | lst l => exact fun d hd => ih d (List.all_eq_true.mp (show l.all (okD n) = true from h) d hd)
    | _ => first | trivial | exact h | (cases h)
theorem lay_all : ∀ {l : List D}, (∀ d ∈ l, (toPy d).canLay0 = true) → PyData.canLayAll0 (toPyL l) = true
  | [], _ => rfl
  | d :: ds, h => by
    show ((toPy d).canLay0 && PyData.canLayAll0 (toPyL ds)) = true
    rw [h d List.mem_cons_self, lay_all fun e he => h e (List.mem_cons_of_mem _ he)]
    rfl
theorem deep_all {n : Nat} : ∀ {l : List D}, (∀ d ∈ l, (toPy d).depth ≤ n) → PyData.depthAll (toPyL l) ≤ n
  | [], _ => Nat.zero_le _
  | d :: ds, h => by
    show max (toPy d).depth (PyData.depthAll (toPyL ds)) ≤ n
    exact Nat.max_le.mpr ⟨h d List.mem_cons_self, deep_all fun e he => h e (List.mem_cons_of_mem _ he)⟩
theorem py_ok : ∀ (n : Nat) (d : D), okP n d → (toPy d).canLay0 = true ∧ (toPy d).depth ≤ n := by
  intro n
  induction n with
  | zero =>
    intro d h
    cases d <;> first | exact ⟨rfl, Nat.zero_le _⟩ | exact ⟨h, Nat.zero_le _⟩ | exact h.elim
  | succ n ih =>
    intro d h
    cases d with
    | tup l => exact ⟨lay_all fun d hd => (ih d (h d hd)).1, Nat.succ_le_succ (deep_all fun d hd => (ih d (h d hd)).2)⟩
    | lst l => exact ⟨lay_all fun d hd => (ih d (h d hd)).1, Nat.succ_le_succ (deep_all fun d hd => (ih d (h d hd)).2)⟩
    | _ => first | exact ⟨rfl, Nat.zero_le _⟩ | exact ⟨h, Nat.zero_le _⟩ | exact h.elim
theorem dp_all {F : Hp} {n : Nat} (ih : ∀ d v, okP n d → Rp K F d v → Dp K F v (toPy d)) : ∀ {l : List D} {xs : List V}, (∀ d ∈ l, okP n d) → RpL K F l xs → DpAll K F xs (toPyL l)
  | [], _, _, r => by rw [show _ = [] from r]; exact .nil
  | d :: ds, _, h, ⟨x, r, e, q, t⟩ => by
    rw [e]
    exact .cons (ih d x (h d List.mem_cons_self) q) (dp_all ih (fun e he => h e (List.mem_cons_of_mem _ he)) t)
theorem dp_of {F : Hp} : ∀ (n : Nat) (d : D) (v : V), okP n d → Rp K F d v → Dp K F v (toPy d) := by
  intro n
  induction n with
  | zero =>
    intro d v h r
    cases d <;> first | (rw [show v = _ from r]; constructor) | exact h.elim
  | succ n ih =>
    intro d v h r
    cases d with
    | tup l =>
      obtain ⟨a, xs, e, s, q⟩ := r
      rw [e]
      exact .tup s (dp_all ih h q)
    | lst l =>
      obtain ⟨a, xs, e, s, q⟩ := r
      rw [e]
      exact .lst (.inl (.inl s)) (dp_all ih h q)
    | _ => first | (rw [show v = _ from r]; constructor) | exact h.elim
mutual
theorem Dp.up {F H : Hp} (s : Same F H) : ∀ (e : PyData) (v : V), Dp K F v e → Dp K H v e
  | .none, _, h => by cases h; exact .non
  | .bool b, _, h => by cases h; exact .bl b
  | .int i, _, h => by cases h; exact .int i
  | .str x, _, h => by cases h; exact .str x
  | .list ds, _, h => by
    cases h with
    | lst q t => exact .lst (same_l s q) (DpAll.up s ds _ t)
  | .tuple ds, _, h => by
    cases h with
    | tup q t => exact .tup (same_t s q) (DpAll.up s ds _ t)
  | .dict _, _, h => by cases h
theorem DpAll.up {F H : Hp} (s : Same F H) : ∀ (es : List PyData) (vs : List V), DpAll K F vs es → DpAll K H vs es
  | [], _, h => by cases h; exact .nil
  | e :: es, _, h => by
    cases h with
    | cons q t => exact .cons (Dp.up s e _ q) (DpAll.up s es _ t)
end
theorem vw_dp {g : Gh} {σ : L2.St} {H : Hp} {ρ : Rho} {M : Mm} {F : Hp} {O : Own} {d : D} {v : V} {n : Nat} (A : Ab K g σ H ρ M F O) (h : okP n d) (r : Vw K σ ρ F d v) : Dp K H v (toPy d) := by
  rcases r with r | ⟨i, l, p, h1, h2, h3, h4⟩
  · exact Dp.up A.sub _ _ (dp_of n d v h r)
  · subst h4
    obtain ⟨q, xs, e1, e2, e3⟩ := Vw.lst A (.inr ⟨i, l, p, h1, h2, h3, rfl⟩)
    rw [e1]
    cases n with
    | zero => exact h.elim
    | succ n => exact .lst (.inl (.inl e2)) (DpAll.up A.sub _ _ (dp_all (fun d v => dp_of n d v) h e3))
theorem shaped_ok {n : Nat} {d : D} (h : okP n d) (hn : n ≤ 64) : SeqAt.shaped (toPy d) = true := by
  obtain ⟨h1, h2⟩ := py_ok n d h
  unfold SeqAt.shaped
  rw [h1, decide_eq_true (Nat.le_trans h2 hn)]
  rfl
def eqD (x y : D) : Bool := PyData.eqv (toPy x) (toPy y)
def fEq : F2 := fun x y k => (okD 50 x && okD 50 y) = true ∧ k (.bl (eqD x y))
def fNe : F2 := fun x y k => (okD 50 x && okD 50 y) = true ∧ k (.bl (!eqD x y))
theorem opf_eq : OpF K (rEqD K) fEq := by
  intro g σ H ρ M F O x y v u k Q A rx ry h c
  obtain ⟨h1, hk⟩ := h
  obtain ⟨hx, hy⟩ := Bool.and_eq_true_iff.mp h1
  have px := okP_of _ _ hx
  have py := okP_of _ _ hy
  exact ⟨_, _, vw_dp A px rx, vw_dp A py ry, shaped_ok px (by decide), shaped_ok py (by decide), c (.bl (eqD x y)) _ H F O A (Same.refl F) rfl hk⟩
theorem opf_ne : OpF K (rNeD K) fNe := by
  intro g σ H ρ M F O x y v u k Q A rx ry h c
  obtain ⟨h1, hk⟩ := h
  obtain ⟨hx, hy⟩ := Bool.and_eq_true_iff.mp h1
  have px := okP_of _ _ hx
  have py := okP_of _ _ hy
  exact ⟨_, _, vw_dp A px rx, vw_dp A py ry, shaped_ok px (by decide), shaped_ok py (by decide), c (.bl (!eqD x y)) _ H F O A (Same.refl F) rfl hk⟩
def isN : D → Bool
  | .non => true
  | _ => false
theorem rp_isN {F : Hp} {d : D} {v : V} (h : match d with | .raw _ => False | _ => True) (r : Rp K F d v) : decide (v = .non) = isN d := by
  cases d with
  | non => rw [show v = .non from r]; rfl
  | bl b => rw [show v = .bl b from r]; rfl
  | int b => rw [show v = .int b from r]; rfl
  | str b => rw [show v = .str b from r]; rfl
  | tup l => obtain ⟨a, xs, e, _⟩ := r; rw [e]; rfl
  | lst l => obtain ⟨a, xs, e, _⟩ := r; rw [e]; rfl
  | dic ks l => obtain ⟨a, xs, e, _⟩ := r; rw [e]; rfl
  | obj C ns l => obtain ⟨a, dx, xs, e, _⟩ := r; rw [e]; rfl
  | raw w => exact h.elim
  | scr l => obtain ⟨a, e, _⟩ := r; rw [e]; rfl
  | clo _ _ _ _ _ => rw [r.1]; rfl
  | fnc _ _ _ _ => rw [r.1]; rfl
  | exv _ _ _ _ _ => rw [r.1]; rfl
def noRaw : D → Bool
  | .raw _ => false
  | _ => true
def fIs : F2 := fun x y k => match y with | .non => noRaw x = true ∧ k (.bl (isN x)) | _ => False
def fIsNot : F2 := fun x y k => match y with | .non => noRaw x = true ∧ k (.bl (!isN x)) | _ => False
theorem vw_isN {σ : L2.St} {ρ : Rho} {F : Hp} {d : D} {v : V} (h : noRaw d = true) (r : Vw K σ ρ F d v) : decide (v = .non) = isN d := by
  rcases r with r | ⟨i, l, p, h1, h2, h3, h4⟩
  · exact rp_isN (by cases d <;> first | trivial | (cases h)) r
  · subst h4; rw [h3]; rfl
theorem opf_is : OpF K (fun x y H Q => y = .non ∧ Q (.bl (decide (x = .non))) H) fIs := by
  intro g σ H ρ M F O x y v u k Q A rx ry h c
  unfold fIs at h
  split at h
  · exact ⟨ry.non, by rw [vw_isN h.1 rx]; exact c (.bl (isN x)) _ H F O A (Same.refl F) rfl h.2⟩
  · exact h.elim
end
section
variable {X : Cx} {W : WX} {a b c e i : Expr} {es rest : List Expr} {pa pb pc : PTE} {ta tb tc : PTT} {pl : PTA} {pos : Pos}
theorem de_add (ha : DO X W a pa) (hb : DO X W b pb) : DE X W (.BinOp a .Add b pos) (dOp fAdd pa pb) := de_op o_add opf_add ha hb
theorem de_sub (ha : DO X W a pa) (hb : DO X W b pb) : DE X W (.BinOp a .Sub b pos) (dOp fSub pa pb) := de_op op_sub opf_sub ha hb
theorem de_mul (ha : DO X W a pa) (hb : DO X W b pb) : DE X W (.BinOp a .Mult b pos) (dOp fMul pa pb) := de_op o_mul opf_mul ha hb
theorem de_div (ha : DO X W a pa) (hb : DO X W b pb) : DE X W (.BinOp a .FloorDiv b pos) (dOp fDiv pa pb) := de_op op_fdivW opf_div ha hb
theorem de_mod (ha : DO X W a pa) (hb : DO X W b pb) : DE X W (.BinOp a .Mod b pos) (dOp fMod pa pb) := de_op op_mod opf_mod ha hb
theorem de_pow (ha : DO X W a pa) (hb : DO X W b pb) : DE X W (.BinOp a .Pow b pos) (dOp fPow pa pb) := de_op op_pow opf_pow ha hb
theorem de_gt (ha : DO X W a pa) (hb : DO X W b pb) : DE X W (.Compare a [.Gt] [b] pos) (dOp fGt pa pb) := de_cmp op_gt opf_cmp ha hb (nomark _)
theorem de_ge (ha : DO X W a pa) (hb : DO X W b pb) : DE X W (.Compare a [.GtE] [b] pos) (dOp fGe pa pb) := de_cmp op_ge opf_cmp ha hb (nomark _)
theorem de_eq (hu : X.A.units + 64 < cLine) (ha : DO X W a pa) (hb : DO X W b pb) : DE X W (.Compare a [.Eq] [b] pos) (dOp fEq pa pb) := de_cmp (op_eqD hu) opf_eq ha hb (nomark _)
theorem de_is (ha : DO X W a pa) (hb : DO X W b pb) : DE X W (.Compare a [.Is] [b] pos) (dOp fIs pa pb) := de_cmp op_isN opf_is ha hb (nomark _)
theorem dt_lt (ha : DO X W a pa) (hb : DO X W b pb) : DT X W (.Compare a [.Lt] [b] pos) (dTst (dOp fLt pa pb)) := dt_cmp op_lt opf_cmp ha hb (nomark _)
theorem dt_le (ha : DO X W a pa) (hb : DO X W b pb) : DT X W (.Compare a [.LtE] [b] pos) (dTst (dOp fLe pa pb)) := dt_cmp op_le opf_cmp ha hb (nomark _)
theorem dt_gt (ha : DO X W a pa) (hb : DO X W b pb) : DT X W (.Compare a [.Gt] [b] pos) (dTst (dOp fGt pa pb)) := dt_cmp op_gt opf_cmp ha hb (nomark _)
theorem dt_ge (ha : DO X W a pa) (hb : DO X W b pb) : DT X W (.Compare a [.GtE] [b] pos) (dTst (dOp fGe pa pb)) := dt_cmp op_ge opf_cmp ha hb (nomark _)
theorem dt_eq (hu : X.A.units + 64 < cLine) (ha : DO X W a pa) (hb : DO X W b pb) : DT X W (.Compare a [.Eq] [b] pos) (dTst (dOp fEq pa pb)) := dt_cmp (op_eqD hu) opf_eq ha hb (nomark _)
theorem dt_ne (hu : X.A.units + 64 < cLine) (ha : DO X W a pa) (hb : DO X W b pb) : DT X W (.Compare a [.NotEq] [b] pos) (dTst (dOp fNe pa pb)) := dt_cmp (op_neD hu) opf_ne ha hb (nomark _)
theorem de_ch {op op' : CmpOp} {p p' : Int → Int → Bool} (ho : OpR X (compareOp op) (rI0 fun i j => .bl (p i j))) (ho' : OpR X (compareOp op') (rI0 fun i j => .bl (p' i j))) (ha : DO X W a pa) (hb : DO X W b pb) (hc : DO X W c pc)
    (hm : lastMarks [op, op'] [b, c] = false := by with_unfolding_all rfl) : DE X W (.Compare a [op, op'] [b, c] pos) (dChain (fCmp p) (fCmp p') pa pb pc) := de_chain ho opf_cmp ho' opf_cmp ha hb hc hm
theorem dt_ch {op op' : CmpOp} {p p' : Int → Int → Bool} (ho : OpR X (compareOp op) (rI0 fun i j => .bl (p i j))) (ho' : OpR X (compareOp op') (rI0 fun i j => .bl (p' i j))) (ha : DO X W a pa) (hb : DO X W b pb) (hc : DO X W c pc)
    (hm : lastMarks [op, op'] [b, c] = false := by with_unfolding_all rfl) : DT X W (.Compare a [op, op'] [b, c] pos) (dTst (dChain (fCmp p) (fCmp p') pa pb pc)) := dt_chain ho opf_cmp ho' opf_cmp ha hb hc hm
def dAnd (ta tb : PTT) : PTT := fun w ρ M q => ta w ρ M fun c M1 => if c = true then tb w ρ M1 q else q false M1
def dOr (ta tb : PTT) : PTT := fun w ρ M q => ta w ρ M fun c M1 => if c = true then q true M1 else tb w ρ M1 q
def dNot (ta : PTT) : PTT := fun w ρ M q => ta w ρ M fun c M1 => q (!c) M1
abbrev DW (X : Cx) (W : WX) (e : Expr) (p : PTT) : Prop := L2.PW X e (realT X.K W p)
theorem DW.dt (h : DW X W e ta) : DT X W e ta := L2.PW.pt h
theorem dw_and1 (ha : DT X W a ta) : DW X W (.BoolOp .And [a] pos) ta := pw_and1 ha
theorem dw_or1 (ha : DT X W a ta) : DW X W (.BoolOp .Or [a] pos) ta := pw_or1 ha
theorem dw_and (ha : DT X W a ta) (hb : DW X W (.BoolOp .And (b :: rest) pos) tb) : DW X W (.BoolOp .And (a :: b :: rest) pos) (dAnd ta tb) := pw_imp (pw_and ha hb) fun σ H Q ⟨g, ρ, M, F, O, q, w, A, p, hw, k⟩ =>
  ⟨g, ρ, M, F, O, _, w, A, p, hw, fun b H1 F1 O1 M1 A1 s1 q1 => by
    cases b with
    | true => exact ⟨g, ρ, M1, F1, O1, q, w, A1, q1, hw.mono s1, fun b H2 F2 O2 M2 A2 s2 q2 => k b H2 F2 O2 M2 A2 (s1.trans s2) q2⟩
    | false => exact k false H1 F1 O1 M1 A1 s1 q1⟩
theorem dw_or (ha : DT X W a ta) (hb : DW X W (.BoolOp .Or (b :: rest) pos) tb) : DW X W (.BoolOp .Or (a :: b :: rest) pos) (dOr ta tb) := pw_imp (pw_or ha hb) fun σ H Q ⟨g, ρ, M, F, O, q, w, A, p, hw, k⟩ =>
  ⟨g, ρ, M, F, O, _, w, A, p, hw, fun b H1 F1 O1 M1 A1 s1 q1 => by
    cases b with
    | false => exact ⟨g, ρ, M1, F1, O1, q, w, A1, q1, hw.mono s1, fun b H2 F2 O2 M2 A2 s2 q2 => k b H2 F2 O2 M2 A2 (s1.trans s2) q2⟩
    | true => exact k true H1 F1 O1 M1 A1 s1 q1⟩
theorem dt_not (ha : DT X W a ta) : DT X W (.UnaryOp .Not a pos) (dNot ta) := pt_imp (pt_not ha) fun σ H Q ⟨g, ρ, M, F, O, q, w, A, p, hw, k⟩ =>
  ⟨g, ρ, M, F, O, _, w, A, p, hw, fun b H1 F1 O1 M1 A1 s1 q1 => k (!b) H1 F1 O1 M1 A1 s1 q1⟩
def dAndV (pa pb : PTE) : PTE := fun w ρ M q => pa w ρ M fun d M1 => isB d fun c => if c = true then pb w ρ M1 q else q (.bl false) M1
def dOrV (pa pb : PTE) : PTE := fun w ρ M q => pa w ρ M fun d M1 => isB d fun c => if c = true then q (.bl true) M1 else pb w ρ M1 q
def dNotV (pa : PTE) : PTE := fun w ρ M q => pa w ρ M fun d M1 => isB d fun c => q (.bl (!c)) M1
theorem de_bone {op : BoolOp} (h : DE X W a pa) : DE X W (.BoolOp op [a] pos) pa := pe_one h
theorem de_and (ha : DE X W a pa) (hb : DE X W (.BoolOp .And (b :: rest) pos) pb) : DE X W (.BoolOp .And (a :: b :: rest) pos) (dAndV pa pb) := pe_imp (pe_and ha hb) fun σ H Q ⟨g, ρ, M, F, O, q, w, A, p, hw, k⟩ =>
  ⟨g, ρ, M, F, O, _, w, A, p, hw, fun v H1 F1 O1 M1 d A1 s1 r1 q1 => by
    obtain ⟨b, eb, q2⟩ := isB_run r1 q1
    refine ⟨b, eb, ?_⟩
    cases b with
    | true => exact ⟨g, ρ, M1, F1, O1, q, w, A1, q2, hw.mono s1, fun v H2 F2 O2 M2 d A2 s2 r2 q2 => k v H2 F2 O2 M2 d A2 (s1.trans s2) r2 q2⟩
    | false => exact k (.bl false) H1 F1 O1 M1 (.bl false) A1 s1 rfl q2⟩
theorem de_not (ha : DE X W a pa) : DE X W (.UnaryOp .Not a pos) (dNotV pa) := pe_imp (pe_not ha) fun σ H Q ⟨g, ρ, M, F, O, q, w, A, p, hw, k⟩ =>
  ⟨g, ρ, M, F, O, _, w, A, p, hw, fun v H1 F1 O1 M1 d A1 s1 r1 q1 => by
    obtain ⟨b, eb, q2⟩ := isB_run r1 q1
    exact ⟨b, eb, k (.bl (!b)) H1 F1 O1 M1 (.bl (!b)) A1 s1 rfl q2⟩⟩
def dIf (tc : PTT) (pa pb : PTE) : PTE := fun w ρ M q => tc w ρ M fun c M1 => if c = true then pa w ρ M1 q else pb w ρ M1 q
theorem de_ife (hc : DT X W c tc) (ha : DE X W a pa) (hb : DE X W b pb) : DE X W (.IfExp c a b pos) (dIf tc pa pb) := pe_imp (pe_ifExp hc ha hb) fun σ H Q ⟨g, ρ, M, F, O, q, w, A, p, hw, k⟩ =>
  ⟨g, ρ, M, F, O, _, w, A, p, hw, fun b H1 F1 O1 M1 A1 s1 q1 => by
    cases b with
    | true => exact ⟨g, ρ, M1, F1, O1, q, w, A1, q1, hw.mono s1, fun v H2 F2 O2 M2 d A2 s2 r2 q2 => k v H2 F2 O2 M2 d A2 (s1.trans s2) r2 q2⟩
    | false => exact ⟨g, ρ, M1, F1, O1, q, w, A1, q1, hw.mono s1, fun v H2 F2 O2 M2 d A2 s2 r2 q2 => k v H2 F2 O2 M2 d A2 (s1.trans s2) r2 q2⟩⟩
def dNeg (pa : PTE) : PTE := fun w ρ M q => pa w ρ M fun d M1 => match d with | .int i => q (.int (-i)) M1 | _ => False
theorem de_neg (ha : DO X W a pa) : DE X W (.UnaryOp .USub a pos) (dNeg pa) := pe_imp (pe_un un_neg ha) fun σ H Q ⟨g, ρ, M, F, O, q, w, A, p, hw, k⟩ =>
  ⟨g, ρ, M, F, O, _, w, A, p, hw, fun v H1 F1 O1 M1 d A1 s1 r1 q1 => by
    cases d with
    | int i => exact ⟨i, r1.int, k (.int (-i)) H1 F1 O1 M1 (.int (-i)) A1 s1 rfl q1⟩
    | _ => exact (show False from q1).elim⟩
def dNil : PTA := fun _ _ M q => q [] M
def dCons (pa : PTE) (pl : PTA) : PTA := fun w ρ M q => pa w ρ M fun d M1 => pl w ρ M1 fun ds M2 => q (d :: ds) M2
theorem da_nil : DA X W [] dNil := pa_imp pa_nil fun σ H Q ⟨g, ρ, M, F, O, q, w, A, p, hw, k⟩ => k [] H F O M [] A (Same.refl F) rfl p
theorem da_cons (ha : DE X W e pa) (hr : DA X W es pl) (hs : starEach (e :: es) X.env = (false, eval e X.env) :: starEach es X.env := by rfl) : DA X W (e :: es) (dCons pa pl) := pa_imp (pa_cons ha hr hs) fun σ H Q ⟨g, ρ, M, F, O, q, w, A, p, hw, k⟩ =>
  ⟨g, ρ, M, F, O, _, w, A, p, hw, fun v H1 F1 O1 M1 d A1 s1 r1 q1 => ⟨g, ρ, M1, F1, O1, _, w, A1, q1, hw.mono s1, fun vs H2 F2 O2 M2 ds A2 s2 r2 q2 => k (v :: vs) H2 F2 O2 M2 (d :: ds) A2 (s1.trans s2) ⟨v, vs, rfl, Rp.mono s2 _ _ r1, r2⟩ q2⟩⟩
def dTup (pl : PTA) : PTE := fun w ρ M q => pl w ρ M fun ds M1 => ds.length ≤ 1000000 ∧ q (.tup ds) M1
theorem de_tup {x1 : Nat} (h : DA X W es pl) : DE X W (.Tuple es x1 pos) (dTup pl) := pe_imp (pe_tup h) fun σ H Q ⟨g, ρ, M, F, O, q, w, A, p, hw, k⟩ =>
  ⟨g, ρ, M, F, O, _, w, A, p, hw, fun vs H1 F1 O1 M1 ds A1 s1 r1 ⟨z, q1⟩ => ⟨by rw [← r1.len]; exact line_big z, fun p hp =>
    have s := same_new (o := .tup vs) (A1.f0 hp)
    k (.ref p) _ _ O1 M1 (.tup ds) (A1.lay hp) (s1.trans s) ⟨p, vs, rfl, .inl (.inl upd_same), RpL.mono s _ _ r1⟩ q1⟩⟩
def dLst (pl : PTA) : PTA := fun w ρ M q => pl w ρ M fun ds M1 => ds.length ≤ 1000000 ∧ q ds M1
theorem dl_lst (h : DA X W es pl) : DL X W (.List es pos) (dLst pl) := pe_imp (pe_lst h) fun σ H Q ⟨g, ρ, M, F, O, q, w, A, p, hw, k⟩ =>
  ⟨g, ρ, M, F, O, _, w, A, p, hw, fun vs H1 F1 O1 M1 ds A1 s1 r1 ⟨z, q1⟩ => ⟨by rw [← r1.len]; exact line_big z, fun p hp =>
    k p vs _ F1 O1 M1 ds (A1.laid hp) s1 upd_same r1 (A1.f0 hp) (A1.o0 hp) (A1.g0 hp) q1⟩⟩
def atD (l : List D) (i : Int) (k : D → Prop) : Prop := ∃ d, atI l i = some d ∧ k d
def fIx : F2
  | .lst l, .int i, k => atD l i k
  | .tup l, .int i, k => atD l i k
  | _, _, _ => False
theorem RpL.atI {K : PySem.W.Frag} {F : Hp} {ds : List D} {xs : List V} {i : Int} {d : D} (r : RpL K F ds xs) (h : L2.atI ds i = some d) : ∃ x, L2.atI xs i = some x ∧ Rp K F d x := by
  unfold L2.atI at h ⊢
  rw [← r.len]
  cases e : ixN ds.length i with
  | none => rw [e] at h; cases h
  | some j =>
    rw [e] at h
    exact r.get h
theorem opf_ix {K : PySem.W.Frag} : OpF K (rIx K) fIx := by
  intro g σ H ρ M F O x y v u k Q A rx ry h c
  unfold fIx at h
  split at h
  · rename_i l i
    obtain ⟨d, h1, h2⟩ := h
    obtain ⟨p, xs, e1, hp, r1⟩ := rx.lst A
    obtain ⟨z, h3, r3⟩ := r1.atI h1
    exact .inl ⟨p, xs, i, z, e1, ry.int, .inl (.inl hp), h3, c d z H F O A (Same.refl F) r3 h2⟩
  · rename_i l i
    obtain ⟨d, h1, h2⟩ := h
    obtain ⟨p, xs, e1, hp, r1⟩ := rx.tup A
    obtain ⟨z, h3, r3⟩ := r1.atI h1
    exact .inr (.inl ⟨p, xs, i, z, e1, ry.int, hp, h3, c d z H F O A (Same.refl F) r3 h2⟩)
  · exact h.elim
theorem de_ix (ha : DO X W a pa) (hb : DO X W i pb) (hs : PlainIx i := by exact fun _ _ => rfl) : DE X W (.Subscript a i pos) (dOp fIx pa pb) := pe_imp (pe_ix ix_seq ha hb hs) fun σ H Q h => op_run opf_ix h
end
end Px
set_option Elab.async false
set_option linter.all false
set_option maxRecDepth 100000
namespace Px
open PySem PySem.Spec PyProof.Rows L2
abbrev F1 := D → (D → Prop) → Prop
abbrev G1 := D → (List D → Prop) → Prop
def BF1 (K : PySem.W.Frag) (r : List V → Hp → VK → Prop) (f : F1) : Prop := ∀ g σ H ρ M F O x v (k : D → Prop) (Q : VK), Ab K g σ H ρ M F O → Vw K σ ρ F x v → f x k →
  (∀ z w H' F' O', Ab K g σ H' ρ M F' O' → Same F F' → Rp K F' z w → k z → Q w H') → r [v] H Q
def BG1 (K : PySem.W.Frag) (r : List V → Hp → VK → Prop) (f : G1) : Prop := ∀ g σ H ρ M F O x v (k : List D → Prop) (Q : VK), Ab K g σ H ρ M F O → Vw K σ ρ F x v → f x k →
  (∀ ds p xs, H p = none → RpL K F ds xs → k ds → Q (.ref p) (upd H p (.lst xs))) → r [v] H Q
def BF2 (K : PySem.W.Frag) (r : List V → Hp → VK → Prop) (f : F2) : Prop := ∀ g σ H ρ M F O x y v u (k : D → Prop) (Q : VK), Ab K g σ H ρ M F O → Vw K σ ρ F x v → Vw K σ ρ F y u → f x y k →
  (∀ z w H' F' O', Ab K g σ H' ρ M F' O' → Same F F' → Rp K F' z w → k z → Q w H') → r [v, u] H Q
def dB1 (f : F1) (pa : PTE) : PTE := fun w ρ M q => pa w ρ M fun x M1 => f x fun z => q z M1
def dG1 (f : G1) (pa : PTE) : PTA := fun w ρ M q => pa w ρ M fun x M1 => f x fun z => q z M1
section
variable {X : Cx} {W : WX} {a b : Expr} {pa pb : PTE} {pos p : Pos} {x : Str} {idn T : String} {r : List V → Hp → VK → Prop}
theorem b1_run {f : F1} (hf : BF1 X.K r f) {σ : L2.St} {H : Hp} {Q : VK} (h : real X.K W (dB1 f pa) σ H Q) : tCB r (tCons (realO X.K W pa) tNil) σ H Q := by
  obtain ⟨g, ρ, M, F, O, q, w, A, p, hw, k⟩ := h
  exact ⟨g, ρ, M, F, O, _, w, A, p, hw, fun v H1 F1 O1 M1 d A1 s1 r1 q1 => hf g σ H1 ρ M1 F1 O1 d v _ Q A1 r1 q1 fun z w2 H2 F2 O2 A2 s2 r2 q2 => k w2 H2 F2 O2 M1 z A2 (s1.trans s2) r2 q2⟩
theorem g1_run {f : G1} (hf : BG1 X.K r f) {σ : L2.St} {H : Hp} {Q : VK} (h : realL X.K W (dG1 f pa) σ H Q) : tCB r (tCons (realO X.K W pa) tNil) σ H Q := by
  obtain ⟨g, ρ, M, F, O, q, w, A, p, hw, k⟩ := h
  exact ⟨g, ρ, M, F, O, _, w, A, p, hw, fun v H1 F1 O1 M1 d A1 s1 r1 q1 => hf g σ H1 ρ M1 F1 O1 d v _ Q A1 r1 q1 fun ds p xs hp rl q2 =>
    k p xs _ F1 O1 M1 ds (A1.laid hp) s1 upd_same rl (A1.f0 hp) (A1.o0 hp) (A1.g0 hp) q2⟩
theorem b2_run {f : F2} (hf : BF2 X.K r f) {σ : L2.St} {H : Hp} {Q : VK} (h : real X.K W (dOp f pa pb) σ H Q) : tCB r (tCons (realO X.K W pa) (tCons (realO X.K W pb) tNil)) σ H Q := by
  obtain ⟨g, ρ, M, F, O, q, w, A, p, hw, k⟩ := h
  exact ⟨g, ρ, M, F, O, _, w, A, p, hw, fun v H1 F1 O1 M1 d A1 s1 r1 q1 => ⟨g, ρ, M1, F1, O1, _, w, A1, q1, hw.mono s1, fun u H2 F2 O2 M2 e A2 s2 r2 q2 =>
    hf g σ H2 ρ M2 F2 O2 d e v u _ Q A2 (r1.mono s2) r2 q2 fun z w3 H3 F3 O3 A3 s3 r3 q3 => k w3 H3 F3 O3 M2 z A3 ((s1.trans s2).trans s3) r3 q3⟩⟩
section
variable (hg : Gl X x) (hm : X.mg x = none) (hn : x ≠ "__name__" := by decide) (hdb : (x == ("__debug__" : Str)) = false := by decide) (he : starEach [a] X.env = (false, eval a X.env) :: starEach [] X.env := by rfl)
theorem de_b1 {f : F1} (hc : CallR X (.builtin idn) r) (hf : BF1 X.K r f) (hg : Gl X x) (hm : X.mg x = none) (hv : bootBuiltins x = some (.builtin idn)) (ha : DO X W a pa) (hn : x ≠ "__name__" := by decide) (hdb : (x == ("__debug__" : Str)) = false := by decide)
    (he : starEach [a] X.env = (false, eval a X.env) :: starEach [] X.env := by rfl) (hpl : (backTo pos (starEach [] X.env)).any (·.1) = false := by rfl) : DE X W (.Call (.Name x p) [a] [] pos) (dB1 f pa) :=
  pe_imp (pe_callB hc hg hm hv (pa_cons ha pa_nil he) hn hdb he hpl) fun σ H Q h => b1_run hf h
theorem dl_b1 {f : G1} (hc : CallR X (.builtin idn) r) (hf : BG1 X.K r f) (hg : Gl X x) (hm : X.mg x = none) (hv : bootBuiltins x = some (.builtin idn)) (ha : DO X W a pa) (hn : x ≠ "__name__" := by decide) (hdb : (x == ("__debug__" : Str)) = false := by decide)
    (he : starEach [a] X.env = (false, eval a X.env) :: starEach [] X.env := by rfl) (hpl : (backTo pos (starEach [] X.env)).any (·.1) = false := by rfl) : DL X W (.Call (.Name x p) [a] [] pos) (dG1 f pa) :=
  pe_imp (pe_callB hc hg hm hv (pa_cons ha pa_nil he) hn hdb he hpl) fun σ H Q h => g1_run hf h
theorem de_t1 {f : F1} (hc : CallR X (.type T) r) (hf : BF1 X.K r f) (hg : Gl X x) (hm : X.mg x = none) (hv : bootBuiltins x = some (.type T)) (ha : DO X W a pa) (hn : x ≠ "__name__" := by decide) (hdb : (x == ("__debug__" : Str)) = false := by decide)
    (he : starEach [a] X.env = (false, eval a X.env) :: starEach [] X.env := by rfl) (hpl : (backTo pos (starEach [] X.env)).any (·.1) = false := by rfl) : DE X W (.Call (.Name x p) [a] [] pos) (dB1 f pa) :=
  pe_imp (pe_callTy hc hg hm hv (pa_cons ha pa_nil he) hn hdb he hpl) fun σ H Q h => b1_run hf h
theorem de_b2 {f : F2} (hc : CallR X (.builtin idn) r) (hf : BF2 X.K r f) (hg : Gl X x) (hm : X.mg x = none) (hv : bootBuiltins x = some (.builtin idn)) (ha : DO X W a pa) (hb : DO X W b pb) (hn : x ≠ "__name__" := by decide) (hdb : (x == ("__debug__" : Str)) = false := by decide)
    (he : starEach [a, b] X.env = (false, eval a X.env) :: starEach [b] X.env := by rfl) (he2 : starEach [b] X.env = (false, eval b X.env) :: starEach [] X.env := by rfl) (hpl : (backTo pos (starEach [b] X.env)).any (·.1) = false := by rfl) : DE X W (.Call (.Name x p) [a, b] [] pos) (dOp f pa pb) :=
  pe_imp (pe_callB hc hg hm hv (pa_cons ha (pa_cons hb pa_nil he2) he) hn hdb he hpl) fun σ H Q h => b2_run hf h
end
def fLen : F1
  | .lst l, k => k (.int l.length)
  | .tup l, k => k (.int l.length)
  | .scr l, k => k (.int l.length)
  | .str s, k => s.length ≤ 1000000 ∧ k (.int s.length)
  | _, _ => False
theorem bf_len : BF1 X.K (fun xs H Q => ∃ x n, xs = [x] ∧ LenV X.K x H n ∧ Q (.int n) H) fLen := by
  intro g σ H ρ M F O x v k Q A rx h c
  unfold fLen at h
  split at h
  · rename_i l
    obtain ⟨a, xs, e, hp, r⟩ := rx.lst A
    exact ⟨v, xs.length, rfl, by rw [e]; exact .inl ⟨xs, .inl (.inl hp), rfl⟩, c (.int xs.length) _ H F O A (Same.refl F) rfl (by rw [← r.len]; exact h)⟩
  · rename_i l
    obtain ⟨a, xs, e, hp, r⟩ := rx.tup A
    exact ⟨v, xs.length, rfl, by rw [e]; exact .inr ⟨xs, hp, rfl⟩, c (.int xs.length) _ H F O A (Same.refl F) rfl (by rw [← r.len]; exact h)⟩
  · rename_i l
    obtain ⟨a, e, hp⟩ := rx.scr A
    exact ⟨v, (l.map V.int).length, rfl, by rw [e]; exact .inl ⟨_, hp, rfl⟩, c (.int l.length) _ H F O A (Same.refl F) (by rw [List.length_map]; rfl) h⟩
  · rename_i s
    exact ⟨v, s.length, rfl, by rw [rx.str]; exact ⟨line_big h.1, rfl⟩, c (.int s.length) _ H F O A (Same.refl F) rfl h.2⟩
  · exact h.elim
theorem de_len (hg : Gl X "len") (hm : X.mg "len" = none) (ha : DO X W a pa) (he : starEach [a] X.env = (false, eval a X.env) :: starEach [] X.env := by rfl) (hpl : (backTo pos (starEach [] X.env)).any (·.1) = false := by rfl) :
    DE X W (.Call (.Name "len" p) [a] [] pos) (dB1 fLen pa) := de_b1 call_len bf_len hg hm PySem.boot_len ha (by decide) (by decide) he hpl
def intsOf : List D → Option (List Int)
  | [] => some []
  | .int i :: r => (intsOf r).map (i :: ·)
  | _ => none
theorem intsOf_eq : ∀ {l : List D} {ns : List Int}, intsOf l = some ns → l = ns.map .int
  | [], ns, h => by cases h; rfl
  | d :: r, ns, h => by
    cases d with
    | int i =>
      have h' : (intsOf r).map (i :: ·) = some ns := h
      cases e : intsOf r with
      | none => rw [e] at h'; cases h'
      | some ms =>
        rw [e] at h'
        cases h'
        rw [intsOf_eq e]; rfl
    | _ => cases h
def boolsOf : List D → Option (List Bool)
  | [] => some []
  | .bl i :: r => (boolsOf r).map (i :: ·)
  | _ => none
theorem boolsOf_eq : ∀ {l : List D} {ns : List Bool}, boolsOf l = some ns → l = ns.map .bl
  | [], ns, h => by cases h; rfl
  | d :: r, ns, h => by
    cases d with
    | bl i =>
      have h' : (boolsOf r).map (i :: ·) = some ns := h
      cases e : boolsOf r with
      | none => rw [e] at h'; cases h'
      | some ms =>
        rw [e] at h'
        cases h'
        rw [boolsOf_eq e]; rfl
    | _ => cases h
theorem boolsOf_map : ∀ ns : List Bool, boolsOf (ns.map .bl) = some ns
  | [] => rfl
  | n :: ns => by
    show (boolsOf (ns.map .bl)).map (n :: ·) = _
    rw [boolsOf_map ns]; rfl
def minL : Int → List Int → Int
  | n, [] => n
  | n, m :: r => minL (if m < n then m else n) r
def maxL : Int → List Int → Int
  | n, [] => n
  | n, m :: r => maxL (if m > n then m else n) r
theorem minL_le : ∀ (r : List Int) (n : Int), minL n r ≤ n ∧ ∀ m ∈ r, minL n r ≤ m
  | [], n => ⟨Int.le_refl _, fun _ h => nomatch h⟩
  | m :: r, n => by
    obtain ⟨h1, h2⟩ := minL_le r (if m < n then m else n)
    have hd : minL n (m :: r) = minL (if m < n then m else n) r := rfl
    rw [hd]
    have hi : (if m < n then m else n) ≤ n ∧ (if m < n then m else n) ≤ m := by split <;> omega
    refine ⟨by omega, fun x hx => ?_⟩
    rcases List.mem_cons.mp hx with e | hx
    · rw [e]; omega
    · exact h2 x hx
theorem minL_mem : ∀ (r : List Int) (n : Int), minL n r ∈ n :: r
  | [], n => List.mem_cons_self
  | m :: r, n => by
    have h := minL_mem r (if m < n then m else n)
    have hd : minL n (m :: r) = minL (if m < n then m else n) r := rfl
    rw [hd]
    rcases List.mem_cons.mp h with e | e
    · rw [e]; split <;> simp
    · exact List.mem_cons_of_mem _ (List.mem_cons_of_mem _ e)
theorem maxL_le : ∀ (r : List Int) (n : Int), n ≤ maxL n r ∧ ∀ m ∈ r, m ≤ maxL n r
  | [], n => ⟨Int.le_refl _, fun _ h => nomatch h⟩
  | m :: r, n => by
    obtain ⟨h1, h2⟩ := maxL_le r (if m > n then m else n)
    have hd : maxL n (m :: r) = maxL (if m > n then m else n) r := rfl
    rw [hd]
    have hi : (if m > n then m else n) ≥ n ∧ (if m > n then m else n) ≥ m := by split <;> omega
    refine ⟨by omega, fun x hx => ?_⟩
    rcases List.mem_cons.mp hx with e | hx
    · rw [e]; omega
    · exact h2 x hx
theorem maxL_mem : ∀ (r : List Int) (n : Int), maxL n r ∈ n :: r
  | [], n => List.mem_cons_self
  | m :: r, n => by
    have h := maxL_mem r (if m > n then m else n)
    have hd : maxL n (m :: r) = maxL (if m > n then m else n) r := rfl
    rw [hd]
    rcases List.mem_cons.mp h with e | e
    · rw [e]; split <;> simp
    · exact List.mem_cons_of_mem _ (List.mem_cons_of_mem _ e)
def fMin : F1
  | .lst l, k => match intsOf l with | some (n :: r) => k (.int (minL n r)) | _ => False
  | _, _ => False
def fMax : F1
  | .lst l, k => match intsOf l with | some (n :: r) => k (.int (maxL n r)) | _ => False
  | _, _ => False
theorem bf_min : BF1 X.K (rMin X.K) fMin := by
  intro g σ H ρ M F O x v k Q A rx h c
  unfold fMin at h
  split at h
  · rename_i l
    split at h
    · rename_i n r e
      obtain ⟨a, xs, e1, hp, rl⟩ := rx.lst A
      rw [intsOf_eq e] at rl
      have ex := rl.ints
      subst ex
      refine ⟨a, n :: r, by rw [e1], .inl (.inl hp), Nat.succ_pos _, fun m hm hle => ?_⟩
      obtain ⟨h1, h2⟩ := minL_le r n
      have h3 := minL_mem r n
      have em : m = minL n r := by
        have q1 := hle _ h3
        rcases List.mem_cons.mp hm with z | z
        · omega
        · have q2 := h2 m z; omega
      rw [em]
      exact c (.int (minL n r)) _ H F O A (Same.refl F) rfl h
    · exact h.elim
  · exact h.elim
theorem bf_max : BF1 X.K (rMax X.K) fMax := by
  intro g σ H ρ M F O x v k Q A rx h c
  unfold fMax at h
  split at h
  · rename_i l
    split at h
    · rename_i n r e
      obtain ⟨a, xs, e1, hp, rl⟩ := rx.lst A
      rw [intsOf_eq e] at rl
      have ex := rl.ints
      subst ex
      refine ⟨a, n :: r, by rw [e1], .inl (.inl hp), Nat.succ_pos _, fun m hm hle => ?_⟩
      obtain ⟨h1, h2⟩ := maxL_le r n
      have h3 := maxL_mem r n
      have em : m = maxL n r := by
        have q1 := hle _ h3
        rcases List.mem_cons.mp hm with z | z
        · omega
        · have q2 := h2 m z; omega
      rw [em]
      exact c (.int (maxL n r)) _ H F O A (Same.refl F) rfl h
    · exact h.elim
  · exact h.elim
def fAll : F1
  | .lst l, k => match boolsOf l with | some bs => k (.bl (bs.all id)) | _ => False
  | _, _ => False
def fAny : F1
  | .lst l, k => match boolsOf l with | some bs => k (.bl (bs.any id)) | _ => False
  | _, _ => False
def fSum : F1
  | .lst l, k => match intsOf l with | some ns => k (.int ns.sum) | _ => False
  | _, _ => False
theorem bf_all : BF1 X.K (rAll X.K) fAll := by
  intro g σ H ρ M F O x v k Q A rx h c
  unfold fAll at h
  split at h
  · split at h
    · rename_i bs e
      obtain ⟨a, xs, e1, hp, rl⟩ := rx.lst A
      rw [boolsOf_eq e] at rl
      have ex := rl.bls
      subst ex
      exact ⟨a, bs, by rw [e1], .inl (.inl hp), c (.bl (bs.all id)) _ H F O A (Same.refl F) rfl h⟩
    · exact h.elim
  · exact h.elim
theorem bf_any : BF1 X.K (rAny X.K) fAny := by
  intro g σ H ρ M F O x v k Q A rx h c
  unfold fAny at h
  split at h
  · split at h
    · rename_i bs e
      obtain ⟨a, xs, e1, hp, rl⟩ := rx.lst A
      rw [boolsOf_eq e] at rl
      have ex := rl.bls
      subst ex
      exact ⟨a, bs, by rw [e1], .inl (.inl hp), c (.bl (bs.any id)) _ H F O A (Same.refl F) rfl h⟩
    · exact h.elim
  · exact h.elim
theorem bf_sum : BF1 X.K (rSum X.K) fSum := by
  intro g σ H ρ M F O x v k Q A rx h c
  unfold fSum at h
  split at h
  · split at h
    · rename_i bs e
      obtain ⟨a, xs, e1, hp, rl⟩ := rx.lst A
      rw [intsOf_eq e] at rl
      have ex := rl.ints
      subst ex
      exact ⟨a, bs, by rw [e1], .inl (.inl hp), c (.int bs.sum) _ H F O A (Same.refl F) rfl h⟩
    · exact h.elim
  · exact h.elim
def fAbs : F1
  | .int i, k => k (.int (if i < 0 then -i else i))
  | _, _ => False
theorem bf_abs : BF1 X.K (fun xs H Q => ∃ i, xs = [.int i] ∧ Q (.int (if i < 0 then -i else i)) H) fAbs := by
  intro g σ H ρ M F O x v k Q A rx h c
  unfold fAbs at h
  split at h
  · rename_i i
    exact ⟨i, by rw [rx.int], c (.int (if i < 0 then -i else i)) _ H F O A (Same.refl F) rfl h⟩
  · exact h.elim
def fInt : F1
  | .int i, k => k (.int i)
  | .bl b, k => k (.int (if b then 1 else 0))
  | _, _ => False
theorem bf_int : BF1 X.K (fun xs H Q => (∃ i, xs = [.int i] ∧ Q (.int i) H) ∨ ∃ k, xs = [.bl k] ∧ Q (.int (if k then 1 else 0)) H) fInt := by
  intro g σ H ρ M F O x v k Q A rx h c
  unfold fInt at h
  split at h
  · rename_i i
    exact .inl ⟨i, by rw [rx.int], c (.int i) _ H F O A (Same.refl F) rfl h⟩
  · rename_i b
    exact .inr ⟨b, by rw [rx.bl], c (.int (if b then 1 else 0)) _ H F O A (Same.refl F) rfl h⟩
  · exact h.elim
def fMin2 : F2
  | .int i, .int j, k => k (.int (if j < i then j else i))
  | _, _, _ => False
def fMax2 : F2
  | .int i, .int j, k => k (.int (if j > i then j else i))
  | _, _, _ => False
theorem bf_min2 : BF2 X.K (fun xs H Q => ∃ i j, xs = [.int i, .int j] ∧ Q (.int (if j < i then j else i)) H) fMin2 := by
  intro g σ H ρ M F O x y v u k Q A rx ry h c
  unfold fMin2 at h
  split at h
  · rename_i i j
    exact ⟨i, j, by rw [rx.int, ry.int], c (.int (if j < i then j else i)) _ H F O A (Same.refl F) rfl h⟩
  · exact h.elim
theorem bf_max2 : BF2 X.K (fun xs H Q => ∃ i j, xs = [.int i, .int j] ∧ Q (.int (if j > i then j else i)) H) fMax2 := by
  intro g σ H ρ M F O x y v u k Q A rx ry h c
  unfold fMax2 at h
  split at h
  · rename_i i j
    exact ⟨i, j, by rw [rx.int, ry.int], c (.int (if j > i then j else i)) _ H F O A (Same.refl F) rfl h⟩
  · exact h.elim
section
variable (he : starEach [a] X.env = (false, eval a X.env) :: starEach [] X.env)
theorem de_min (hc : X.calm = true) (hg : Gl X "min") (hm : X.mg "min" = none) (ha : DO X W a pa) (he : starEach [a] X.env = (false, eval a X.env) :: starEach [] X.env := by rfl) (hpl : (backTo pos (starEach [] X.env)).any (·.1) = false := by rfl) :
    DE X W (.Call (.Name "min" p) [a] [] pos) (dB1 fMin pa) := de_b1 (cr_min hc) bf_min hg hm (by decide +kernel) ha (by decide) (by decide) he hpl
theorem de_max (hc : X.calm = true) (hg : Gl X "max") (hm : X.mg "max" = none) (ha : DO X W a pa) (he : starEach [a] X.env = (false, eval a X.env) :: starEach [] X.env := by rfl) (hpl : (backTo pos (starEach [] X.env)).any (·.1) = false := by rfl) :
    DE X W (.Call (.Name "max" p) [a] [] pos) (dB1 fMax pa) := de_b1 (cr_max hc) bf_max hg hm (by decide +kernel) ha (by decide) (by decide) he hpl
theorem de_all (hc : X.calm = true) (hg : Gl X "all") (hm : X.mg "all" = none) (ha : DO X W a pa) (he : starEach [a] X.env = (false, eval a X.env) :: starEach [] X.env := by rfl) (hpl : (backTo pos (starEach [] X.env)).any (·.1) = false := by rfl) :
    DE X W (.Call (.Name "all" p) [a] [] pos) (dB1 fAll pa) := de_b1 (cr_all hc) bf_all hg hm (by decide +kernel) ha (by decide) (by decide) he hpl
theorem de_any (hc : X.calm = true) (hg : Gl X "any") (hm : X.mg "any" = none) (ha : DO X W a pa) (he : starEach [a] X.env = (false, eval a X.env) :: starEach [] X.env := by rfl) (hpl : (backTo pos (starEach [] X.env)).any (·.1) = false := by rfl) :
    DE X W (.Call (.Name "any" p) [a] [] pos) (dB1 fAny pa) := de_b1 (cr_any hc) bf_any hg hm (by decide +kernel) ha (by decide) (by decide) he hpl
theorem de_sum (hc : X.calm = true) (hg : Gl X "sum") (hm : X.mg "sum" = none) (ha : DO X W a pa) (he : starEach [a] X.env = (false, eval a X.env) :: starEach [] X.env := by rfl) (hpl : (backTo pos (starEach [] X.env)).any (·.1) = false := by rfl) :
    DE X W (.Call (.Name "sum" p) [a] [] pos) (dB1 fSum pa) := de_b1 (cr_sum hc) bf_sum hg hm (by decide +kernel) ha (by decide) (by decide) he hpl
theorem de_abs (hg : Gl X "abs") (hm : X.mg "abs" = none) (ha : DO X W a pa) (he : starEach [a] X.env = (false, eval a X.env) :: starEach [] X.env := by rfl) (hpl : (backTo pos (starEach [] X.env)).any (·.1) = false := by rfl) :
    DE X W (.Call (.Name "abs" p) [a] [] pos) (dB1 fAbs pa) := de_b1 call_abs bf_abs hg hm (by decide +kernel) ha (by decide) (by decide) he hpl
theorem de_intc (hg : Gl X "int") (hm : X.mg "int" = none) (ha : DO X W a pa) (he : starEach [a] X.env = (false, eval a X.env) :: starEach [] X.env := by rfl) (hpl : (backTo pos (starEach [] X.env)).any (·.1) = false := by rfl) :
    DE X W (.Call (.Name "int" p) [a] [] pos) (dB1 fInt pa) := de_t1 call_int1 bf_int hg hm (by decide +kernel) ha (by decide) (by decide) he hpl
theorem de_min2 (hc : X.calm = true) (hg : Gl X "min") (hm : X.mg "min" = none) (ha : DO X W a pa) (hb : DO X W b pb) (he : starEach [a, b] X.env = (false, eval a X.env) :: starEach [b] X.env := by rfl) (he2 : starEach [b] X.env = (false, eval b X.env) :: starEach [] X.env := by rfl)
    (hpl : (backTo pos (starEach [b] X.env)).any (·.1) = false := by rfl) : DE X W (.Call (.Name "min" p) [a, b] [] pos) (dOp fMin2 pa pb) := de_b2 (call_min2 hc) bf_min2 hg hm (by decide +kernel) ha hb (by decide) (by decide) he he2 hpl
theorem de_max2 (hc : X.calm = true) (hg : Gl X "max") (hm : X.mg "max" = none) (ha : DO X W a pa) (hb : DO X W b pb) (he : starEach [a, b] X.env = (false, eval a X.env) :: starEach [b] X.env := by rfl) (he2 : starEach [b] X.env = (false, eval b X.env) :: starEach [] X.env := by rfl)
    (hpl : (backTo pos (starEach [b] X.env)).any (·.1) = false := by rfl) : DE X W (.Call (.Name "max" p) [a, b] [] pos) (dOp fMax2 pa pb) := de_b2 (call_max2 hc) bf_max2 hg hm (by decide +kernel) ha hb (by decide) (by decide) he he2 hpl
end
def tyD : D → Option String
  | .non => some "NoneType"
  | .bl _ => some "bool"
  | .int _ => some "int"
  | .str _ => some "str"
  | .tup _ => some "tuple"
  | .lst _ => some "list"
  | .dic _ _ => some "dict"
  | .scr _ => some "list"
  | _ => none
def subTy (a t : String) : Bool := a == t || (a == "bool" && t == "int")
def tys : List String := ["NoneType", "bool", "int", "str", "tuple", "list", "dict"]
theorem kit_tys : ∀ a ∈ tys, ∀ t ∈ tys, kitB a t = some (subTy a t) := by decide +kernel
theorem tyD_mem {d : D} {a : String} (h : tyD d = some a) : a ∈ tys := by
  cases d <;> first | (cases h; decide) | cases h
theorem vw_ty {K : PySem.W.Frag} {g : Gh} {σ : L2.St} {H : Hp} {ρ : Rho} {M : Mm} {F : Hp} {O : Own} {d : D} {v : V} {t : String} (A : Ab K g σ H ρ M F O) (r : Vw K σ ρ F d v) (h : tyD d = some t) : TyX K H v (.type t) := by
  cases d with
  | non => cases h; rw [r.non]; exact .base .non
  | bl b => cases h; rw [r.bl]; exact .base (.bl b)
  | int i => cases h; rw [r.int]; exact .base (.int i)
  | str s => cases h; rw [r.str]; exact .base (.str s)
  | lst l =>
    cases h
    obtain ⟨a, xs, e, hp, _⟩ := r.lst A
    rw [e]; exact .base (.lst hp)
  | tup l =>
    cases h
    obtain ⟨a, xs, e, hp, _⟩ := r.tup A
    rw [e]
    rcases hp with (hp | ⟨o, hp⟩) | ⟨o, its, n, hk, hc, _⟩
    · exact .base (.tup hp)
    · exact .fTuple hp
    · exact .kTuple hk hc
  | scr l =>
    cases h
    obtain ⟨a, e, hp⟩ := r.scr A
    rw [e]
    rcases hp with (hp | ⟨o, hp⟩) | ⟨o, its, n, hk, hc, _⟩
    · exact .base (.lst hp)
    · exact .base (.frz hp)
    · exact .kList hk hc
  | dic ks l =>
    cases h
    rcases r with ⟨a, kvs, e, hp, _⟩ | ⟨_, _, _, _, _, _, z⟩
    · rw [e]
      rcases same_rd A.sub hp with hp | ⟨o, hp⟩
      · exact .base (.dK hp)
      · exact .fDict hp
    · cases z
  | obj _ _ _ => cases h
  | raw _ => cases h
  | clo _ _ _ _ _ => cases h
  | fnc _ _ _ _ => cases h
  | exv _ _ _ _ _ => cases h
def fIsi (t : String) : F1 := fun d k => match tyD d with | some a => k (.bl (subTy a t)) | none => False
theorem de_isi (T : String) (hT : T ∈ tys) {x2 : Str} {p2 : Pos} (hg : Gl X "isinstance") (hm : X.mg "isinstance" = none) (hg2 : Gl X x2) (hm2 : X.mg x2 = none) (hv2 : bootBuiltins x2 = some (.type T)) (ha : DO X W a pa)
    (hn2 : x2 ≠ "__name__" := by decide) (hd2 : (x2 == ("__debug__" : Str)) = false := by decide)
    (he : starEach [a, .Name x2 p2] X.env = (false, eval a X.env) :: starEach [.Name x2 p2] X.env := by rfl) (he2 : starEach [.Name x2 p2] X.env = (false, eval (.Name x2 p2) X.env) :: starEach [] X.env := by rfl)
    (hpl : (backTo pos (starEach [.Name x2 p2] X.env)).any (·.1) = false := by rfl) : DE X W (.Call (.Name "isinstance" p) [a, .Name x2 p2] [] pos) (dB1 (fIsi T) pa) :=
  pe_imp (pe_callB call_isi hg hm (by decide +kernel) (pa_cons ha (pa_cons (pe_bltn (v := .ty T) hg2 hm2 hv2 rfl hn2 hd2) pa_nil he2) he) (by decide) (by decide) he hpl) fun σ H Q ⟨g, ρ, M, F, O, q, w, A, p, hw, k⟩ =>
  ⟨g, ρ, M, F, O, _, w, A, p, hw, fun v H1 F1 O1 M1 d A1 s1 r1 q1 => by
    cases e : tyD d with
    | none => simp only [fIsi, e] at q1
    | some t =>
      simp only [fIsi, e] at q1
      exact ⟨v, .ty T, _, _, subTy t T, rfl, .ty T, vw_ty A1 r1 e, kit_ty (kit_tys t (tyD_mem e) T hT), k (.bl (subTy t T)) H1 F1 O1 M1 (.bl (subTy t T)) A1 s1 rfl q1⟩⟩
end
end Px
set_option Elab.async false
set_option linter.all false
set_option maxRecDepth 100000
namespace Px
open PySem PySem.Spec PyProof.Rows L2
abbrev PSp := List D → Mm → PQ → PX → Prop
def Aft (K : PySem.W.Frag) (H : Hp) (F : Hp) (O : Own) (H' : Hp) (M' : Mm) (F' : Hp) (O' : Own) : Prop :=
  Wd K ⟨H, F, fun a => ∃ m, O a = some (.obj m), []⟩ H' M' F' O' ∧ ∀ a o, O' a = some o → ∃ m, o = .obj m
def toSp (K : PySem.W.Frag) (n : Nat) (sp : PSp) : Sp := fun vs H Q E => ∃ g F M O ds q e, vs.length = n ∧ Wd K g H M F O ∧ RpL K F ds vs ∧ sp ds M q e ∧
  (∀ v H' F' O' M' d, Aft K H F O H' M' F' O' → Rp K F' d v → q d M' → Q v H') ∧
  (∀ cls dd H' F' O' M' fs, Aft K H F O H' M' F' O' → ExOk K F' dd fs → e cls fs M' → E cls dd H')
section
variable {K : PySem.W.Frag} {g : Gh} {σ : L2.St} {H H' : Hp} {ρ : Rho} {M M' : Mm} {F F' : Hp} {O O' : Own}
open Classical in
theorem Ab.after2 (A : Ab K g σ H ρ M F O) (B : Aft K H F O H' M' F' O') : ∃ O2, Ab K g σ H' ρ M' F' O2 ∧ Same F F' ∧ ∀ a, O a = none → O2 a = O' a := by
  obtain ⟨B, hb⟩ := B
  have s : Same F F' := B.ext0
  have nobj : ∀ {a o}, O a = some o → (∀ m, o ≠ .obj m) → ¬ ∃ m, O a = some (.obj m) := fun e n ⟨m, z⟩ => by rw [e] at z; exact n m (Option.some.inj z)
  have keep : ∀ {a o u}, O a = some o → (∀ m, o ≠ .obj m) → H a = some u → H' a = some u := fun {a o u} e n h => B.frm a u h (nobj e n)
  have apart : ∀ {a o o'}, O a = some o → (∀ m, o ≠ .obj m) → O' a = some o' → False := fun {a o o'} e n e' => by
    obtain ⟨⟨x, hx⟩, _⟩ := A.liv a o e
    rcases (B.liv a o' e').2.2 with z | z
    · exact nobj e n z
    · rw [show H a = none from z] at hx; cases hx
  refine ⟨fun a => if (∃ o, O a = some o ∧ ∀ m, o ≠ .obj m) then O a else O' a, ?_, s, fun a e => if_neg (by
    rintro ⟨u, e1, _⟩
    rw [e] at e1; cases e1)⟩
  have priv : ∀ {a o}, O a = some o → (∀ m, o ≠ .obj m) → (if (∃ o, O a = some o ∧ ∀ m, o ≠ .obj m) then O a else O' a) = some o := fun e n => by rw [if_pos ⟨_, e, n⟩]; exact e
  have publ : ∀ {a o}, O' a = some o → (if (∃ o, O a = some o ∧ ∀ m, o ≠ .obj m) then O a else O' a) = some o := fun {a o} e => by
    rw [if_neg]
    · exact e
    · rintro ⟨u, e1, n⟩
      exact apart e1 n e
  exact { sub := B.sub, ext0 := A.ext0.trans s
          new := fun a o e => by
            rcases B.new a o e with z | z
            · exact A.new a o z
            · exact .inr (A.g0 z)
          frm := fun a o e n => by
            refine B.frm a o (A.frm a o e n) ?_
            rintro ⟨m, z⟩
            rcases (A.liv a _ z).2.2 with y | y
            · exact n y
            · rw [e] at y; cases y
          thr := fun a o e => by
            obtain ⟨o1, z⟩ := A.thr a o e
            exact B.thr a o1 z
          liv := fun a o e => by
            by_cases c : ∃ o, O a = some o ∧ ∀ m, o ≠ .obj m
            · rw [if_pos c] at e
              obtain ⟨u, e1, n⟩ := c
              rw [e] at e1; cases e1
              obtain ⟨⟨x, hx⟩, hF, h0⟩ := A.liv a o e
              refine ⟨⟨x, keep e n hx⟩, ?_, h0⟩
              cases z : F' a with
              | none => rfl
              | some y =>
                rcases B.new a y z with w | w
                · rw [show F a = some y from w] at hF; cases hF
                · rw [show H a = none from w] at hx; cases hx
            · rw [if_neg c] at e
              obtain ⟨h1, h2, h3⟩ := B.liv a o e
              refine ⟨h1, h2, ?_⟩
              rcases h3 with ⟨m, z⟩ | z
              · exact (A.liv a _ z).2.2
              · exact .inr (A.g0 z)
          slo := fun a o e n => by
            by_cases c : ∃ o, O a = some o ∧ ∀ m, o ≠ .obj m
            · rw [if_pos c] at e
              exact A.slo a o e n
            · rw [if_neg c] at e
              obtain ⟨m, z⟩ := hb a o e
              exact absurd z (n m)
          tm := fun p l e => by
            obtain ⟨xs, e1, e2, e3⟩ := A.tm p l e
            exact ⟨xs, keep e3 (fun _ z => by cases z) e1, RpL.mono s _ _ e2, priv e3 (fun _ z => by cases z)⟩
          mu := fun a mo e => (B.mu a mo e).mono (Same.refl F') fun q u e1 e2 => ⟨e1, publ e2⟩
          len := A.len
          sl := fun i sv e => by
            obtain ⟨v, e1, r⟩ := A.sl i sv e
            exact ⟨v, e1, r.mono s fun p xs e2 e3 => ⟨keep e3 (fun _ z => by cases z) e2, priv e3 (fun _ z => by cases z)⟩⟩ }
theorem Ab.after (A : Ab K g σ H ρ M F O) (B : Aft K H F O H' M' F' O') : ∃ O2, Ab K g σ H' ρ M' F' O2 ∧ Same F F' :=
  let ⟨O2, h1, h2, _⟩ := A.after2 B
  ⟨O2, h1, h2⟩
def startR (n : Nat) (ds : List D) : Rho := ds.map (fun d => some (.val d)) ++ List.replicate (n - ds.length) none
theorem gt_app : ∀ (ds : List D) (i n : Nat) {sv : Sv}, gt (ds.map (fun d => some (Sv.val d)) ++ List.replicate n none) i = some sv → ∃ d, sv = .val d ∧ ds[i]? = some d
  | [], i, n, sv, h => by
    have key : ∀ (n i : Nat), gt (List.replicate n none) i = none := by
      intro n
      induction n with
      | zero => intro i; rfl
      | succ n ih => intro i; cases i with | zero => rfl | succ i => exact ih i
    have h' : gt (List.replicate n none) i = some sv := h
    rw [key] at h'; cases h'
  | d :: ds, 0, n, sv, h => ⟨d, (Option.some.inj h).symm, rfl⟩
  | d :: ds, i + 1, n, sv, h => by
    obtain ⟨e, h1, h2⟩ := gt_app ds i n (sv := sv) h
    exact ⟨e, h1, by simpa using h2⟩
def objs (O : Own) : Own := fun a => match O a with | some (.obj m) => some (.obj m) | _ => none
theorem objs_of {O : Own} {a : Addr} {o : Ow} (h : objs O a = some o) : ∃ m, o = .obj m ∧ O a = some (.obj m) := by
  unfold objs at h
  split at h
  · rename_i m e
    cases h
    exact ⟨m, rfl, e⟩
  · cases h
theorem objs_to {O : Own} {a m : Addr} (h : O a = some (.obj m)) : objs O a = some (.obj m) := by
  unfold objs
  rw [h]
theorem Wd.enter {ds : List D} {vs : List V} {N : List Str} (A : Wd K g H M F O) (r : RpL K F ds vs) : Ab K ⟨H, F, fun a => ∃ m, O a = some (.obj m), []⟩ (L2.start N vs) H (startR N.length ds) M F (objs O) :=
  { sub := A.sub, ext0 := Same.refl F, new := fun a o e => .inl e, frm := fun a o e _ => e, thr := fun a o e => ⟨o, e⟩
    liv := fun a o e => by
      obtain ⟨m, rfl, e1⟩ := objs_of e
      obtain ⟨h1, h2, _⟩ := A.liv a _ e1
      exact ⟨h1, h2, .inl ⟨m, e1⟩⟩
    slo := fun a o e n => by
      obtain ⟨m, rfl, e1⟩ := objs_of e
      exact absurd rfl (n m)
    tm := fun p l e => absurd e (by simp)
    mu := fun a mo e => (A.mu a mo e).mono (Same.refl F) fun q u e1 e2 => ⟨e1, objs_to e2⟩
    len := by
      unfold startR L2.start
      rw [List.length_append, List.length_append, List.length_map, List.length_map, List.length_replicate, List.length_replicate, r.len]
    sl := fun i sv e => by
      obtain ⟨d, rfl, e1⟩ := gt_app ds i _ e
      obtain ⟨v, e2, r2⟩ := r.get e1
      refine ⟨v, ?_, r2⟩
      unfold L2.start
      have hi : i < vs.length := (List.getElem?_eq_some_iff.mp e2).1
      rw [List.getElem?_append_left (by simpa using hi), List.getElem?_map, e2]
      rfl }
def MLe (M' M : Mm) : Prop := ∀ a mo, M' a = some mo → M a = some mo
theorem MLe.refl (M : Mm) : MLe M M := fun _ _ h => h
theorem Ab.leave {H0 : Hp} {F0 : Hp} {w : Addr → Prop} (A : Ab K ⟨H0, F0, w, []⟩ σ H ρ M F O) (h : MLe M' M) : Wd K ⟨H0, F0, w, []⟩ H M' F (objs O) ∧ ∀ a o, objs O a = some o → ∃ m, o = .obj m := by
  refine ⟨?_, fun a o e => let ⟨m, e1, _⟩ := objs_of e; ⟨m, e1⟩⟩
  exact { sub := A.sub, ext0 := A.ext0, new := A.new, frm := A.frm, thr := A.thr
          liv := fun a o e => by
            obtain ⟨m, rfl, e1⟩ := objs_of e
            exact A.liv a _ e1
          slo := fun a o e n => by
            obtain ⟨m, rfl, e1⟩ := objs_of e
            exact absurd rfl (n m)
          tm := fun p l e => absurd e (by simp)
          mu := fun a mo e => (A.mu a mo (h a mo e)).mono (Same.refl F) fun q u e1 e2 => ⟨e1, objs_to e2⟩ }
end
section
variable (P : Program) (w : World) (K : PySem.W.Frag) (mg : Str → Option Value) (base : Heap)
structure FnG (k : Nat) (f : Addr) (fd : FuncData) (ps : List Str) (sp : Sp) : Prop where
  len : ∀ vs H Q E, sp vs H Q E → vs.length = ps.length
  run : ∀ (A : Around) (outer : List Env) (s : Shared) (H : Hp) (args : Args) (us : List Value) (vs : List V) (Q : VK) (E : XK), Room k A → A.guards = some [] → Env0 P w K mg base A outer s H →
    BindsTo s fd args (ps.zip us) → Vals vs us → sp vs H Q E → codeAny (model P w) A (.call (.ref f) args) (CR (L2.CX P w) outer P w H s Q E) s
end
section
variable {P : Program} {w : World} {K : PySem.W.Frag} {mg : Str → Option Value} {base : Heap} {j k : Nat} {f : Addr} {fd : FuncData} {ps N : List Str}
theorem FnG.mono {sp : Sp} (Fg : FnG P w K mg base j f fd ps sp) (h : j ≤ k) : FnG P w K mg base k f fd ps sp := ⟨Fg.len, fun A o s H a us vs Q E r => Fg.run A o s H a us vs Q E (r.mono h)⟩
theorem toSp_len {n : Nat} {sp : PSp} {vs : List V} {H : Hp} {Q : VK} {E : XK} (h : toSp K n sp vs H Q E) : vs.length = n := by
  obtain ⟨_, _, _, _, _, _, _, e, _⟩ := h
  exact e
abbrev WE (E : XK) : WX := fun cls d _ H => E cls d H
theorem Fun.gok {x qual : Str} {stm : Stmt} {sp : Sp} (Fn : L2.Fun K x qual stm f fd) (S : FnScope N ps (defScope stm)) (hn : ∀ vs H Q E, sp vs H Q E → vs.length = ps.length)
    (hbody : ∀ (cdv : Value) (A : Around) (outer : List Env) (s : Shared) (H : Hp) (vs : List V) (Q : VK) (E : XK), Room k (A.deeper (envOfC qual (defScope stm) s.heap.objs.size f cdv)) → A.guards = some [] → sp vs H Q E →
      ∃ t : TS, PSs (cxOf (L2.CX P w) P w K mg base N qual (defScope stm) f cdv A outer s H E) (defBody stm) t ∧ t { nx := fun _ H' => Q .non H', rt := Q } (L2.start N vs) H) :
    FnG P w K mg base (k + 1) f fd ps sp := by
  obtain ⟨oc, od, kV, doc, pm, an, cdv, ct, osl, rfl, lk, hcd⟩ := Fn.ex
  refine ⟨hn, fun A outer s H args us vs Q E hr hG e0 hb r hsp => ?_⟩
  have hl : vs.length = ps.length := hn _ _ _ _ hsp
  have KX : K.In s.heap := e0.mod.kin.keeps fun b o e => (e0.bs b o e).1
  have lim : s.heap.NoLimit := e0.mod.nolimit.keeps fun b o e => (e0.bs b o e).1
  have kinds : ∀ y ∈ ps.zip us, (defScope stm).names.lookup y.1 = some .local ∨ ((defScope stm).names.lookup y.1 = some .cell ∧ ((cellsFrom (s.heap.objs.size + 1) (defScope stm).names []).lookup y.1).isSome = true) := by
    rintro ⟨n, v⟩ hy
    rcases S.par n (List.of_mem_zip hy).1 with q | q
    · exact .inl q
    · exact .inr ⟨q, PySem.W.cellsFrom_some _ _ _ (.inl q)⟩
  refine codeAny_call_function hr.depth (KX _ _ lk) rfl S.co S.gen rfl (PySem.W.codeRec_of KX hcd) (hb _ _ _ _ ?_)
  refine wpAny_newFunctionEnv_cells S.kind kinds fun env he s1 x => ?_
  subst he
  refine ⟨lim.keeps x.toInCall.keep, codeAny_func ?_⟩
  obtain ⟨t, ht, hq⟩ := hbody cdv A outer s H vs Q E (hr.deeper _) hG hsp
  have I := inv_start (CX := L2.CX P w) (E := E) (qual := qual) (f := f) (cd := cdv) (A := A) S hr.hd e0 hl r x
  refine wpAny_mono (ht.run [] s1 (L2.start N vs) H { nx := fun _ H' => Q .non H', rt := Q } I hq) (fun fl s' hs => ?_) fun e s' hs => hs
  cases fl with
  | ret u =>
    obtain ⟨v, σ', H', J, rv, q⟩ := hs
    exact ⟨v, H', J.os, J.bare, J.base, J.hok, rv, q⟩
  | next =>
    obtain ⟨σ', H', J, q⟩ := hs
    exact ⟨.non, H', J.os, J.bare, J.base, J.hok, rfl, q⟩
  | brk =>
    obtain ⟨_, _, _, q⟩ := hs
    exact q.elim
  | cont =>
    obtain ⟨_, _, _, q⟩ := hs
    exact q.elim
def Shows (sp : PSp) (N : Nat) (p : PTS) : Prop := ∀ ds M q e, sp ds M q e →
  p (fun cls fs _ M' => ∃ M2, MLe M2 M' ∧ e cls fs M2) { nx := fun _ M' => ∃ M2, MLe M2 M' ∧ q .non M2, rt := fun d M' => ∃ M2, MLe M2 M' ∧ q d M2 } (startR N ds) M
theorem Fun.pok {x qual : Str} {stm : Stmt} {n : Nat} {sp : PSp} {p : PTS} (Fn : L2.Fun K x qual stm f fd) (S : FnScope N ps (defScope stm)) (hn : ps.length = n) (hs : Shows sp N.length p)
    (hbody : ∀ (cdv : Value) (A : Around) (outer : List Env) (s : Shared) (H : Hp) (E : XK), Room k (A.deeper (envOfC qual (defScope stm) s.heap.objs.size f cdv)) → A.guards = some [] →
      DSs (cxOf (L2.CX P w) P w K mg base N qual (defScope stm) f cdv A outer s H E) (WE E) (defBody stm) p) :
    FnG P w K mg base (k + 1) f fd ps (toSp K n sp) := by
  refine Fun.gok Fn S (fun vs H Q E h => by rw [toSp_len h, hn]) fun cdv A outer s H vs Q E hr hG hsp => ⟨_, hbody cdv A outer s H E hr hG, ?_⟩
  obtain ⟨g, F, M, O, ds, q, e, _, A0, rp, hsp, hQ, hE⟩ := hsp
  refine ⟨_, _, _, _, _, _, _, A0.enter (N := N) rp, hs ds M q e hsp, ?_, ?_, ?_, ?_, ?_, ?_⟩
  · intro cls dd σ' H' ρ' M' F' O' fs A2 s2 x2 ⟨M2, h1, h2⟩
    exact hE cls dd H' F' _ M2 fs (A2.leave h1) x2 h2
  · intro σ' H' ρ' M' F' O' A2 s2 ⟨M2, h1, h2⟩
    exact hQ .non H' F' _ M2 .non (A2.leave h1) rfl h2
  · intro v σ' H' ρ' M' F' O' d A2 s2 r2 ⟨M2, h1, h2⟩
    exact hQ v H' F' _ M2 d (A2.leave h1) r2 h2
  · intro σ' H' ρ' M' F' O' A2 s2 z; exact z.elim
  · intro σ' H' ρ' M' F' O' A2 s2 z; exact z.elim
  · intro a xs σ' H' ρ' M' F' O' ds A2 s2 e1 e2 e3 e4 e5 z; exact z.elim
end
section
variable {X : Cx} {W : WX} {k n : Nat} {f : Addr} {fd : FuncData} {ps : List Str} {sp : PSp} {x : Str} {p pos : Pos} {e : Expr} {es : List Expr} {pl : PTA} {ds : List Value} {dd : List D} {dvs : List V}
theorem run_g {sp : Sp} {pins : List (Addr × Obj)} {σ : L2.St} {H : Hp} {s : Shared} {Q : VK} {us : List Value} {vs : List V} (Fg : FnG X.prog X.w X.K X.mg X.base k f fd ps sp) (hr : Room k X.A) (hG : X.A.guards = some []) (hb : Binds X.K fd ps ds) (hd : Vals dvs ds)
    (tk : Takes X W) (I : Inv X pins σ H s) (r : Vals vs us) (h : sp (vs ++ dvs) H Q (fun cls d H' => W cls d σ H')) : wpAny (model X.prog X.w) X.A (call (.ref f) us) (EP X pins σ Q) X.xe s := by
  have r2 : Vals (vs ++ dvs) (us ++ ds) := r.append hd
  have hl : (us ++ ds).length = ps.length := by rw [← r2.length]; exact Fg.len _ _ _ _ h
  refine wpAny_call (codeAny_mono (Fg.run X.A X.stack s H ⟨us, []⟩ (us ++ ds) (vs ++ dvs) Q _ hr hG I.env0 (hb s us I.kIn hl) r2 h) fun r s' hq => ?_)
  cases r with
  | error e => exact tk e s' (XE.of_call I (fun _ _ _ h => h) hq)
  | ok fl =>
    cases fl with
    | ret u => exact I.after hq
    | next => exact hq.elim
    | brk => exact hq.elim
    | cont => exact hq.elim
def dCall (sp : PSp) (dd : List D) (pl : PTA) : PTE := fun w ρ M q => pl w ρ M fun ds M1 => sp (ds ++ dd) M1 q fun cls fs M2 => w cls fs ρ M2
theorem call_reading {K : PySem.W.Frag} {g : Gh} {σ : L2.St} {H : Hp} {ρ : Rho} {M : Mm} {F : Hp} {O : Own} {w : PWi} {q : PQ} {ds : List D} {vs : List V} {Q : VK} (hn : ps.length = n) (hd : ∀ F, RpL K F dd dvs) (A : Ab K g σ H ρ M F O) (hw : WOk K g F W w)
    (r : RpL K F ds vs) (hl : (ds ++ dd).length = n) (h : sp (ds ++ dd) M q fun cls fs M2 => w cls fs ρ M2) (k : ∀ v H' F' O' M' d, Ab K g σ H' ρ M' F' O' → Same F F' → Rp K F' d v → q d M' → Q v H') :
    toSp K n sp (vs ++ dvs) H Q fun cls d H' => W cls d σ H' := by
  have r2 := r.app (hd F)
  refine ⟨g, F, M, O, ds ++ dd, q, _, by rw [← hl, r2.len], A.toWd, r2, h, fun v H' F' O' M' d B rd hq => ?_, fun cls dd H' F' O' M' fs B x hq => ?_⟩
  · obtain ⟨O2, A2, s⟩ := A.after B
    exact k v H' F' O2 M' d A2 s rd hq
  · obtain ⟨O2, A2, s⟩ := A.after B
    exact hw cls dd σ H' ρ M' F' O2 fs A2 s x hq
theorem de_callD (Fg : FnG X.prog X.w X.K X.mg X.base k f fd ps (toSp X.K n sp)) (hn : ps.length = n) (hlen : ∀ ds M q e, sp ds M q e → ds.length = n) (hr : Room k X.A) (hG : X.A.guards = some []) (hg : Gl X x) (hm : X.mg x = some (.ref f))
    (hk : PySem.W.keepIn X.K (.ref f) = true) (hb : Binds X.K fd ps ds) (hv : Vals dvs ds) (hd : ∀ F, RpL X.K F dd dvs) (tk : Takes X W) (ha : DA X W (e :: es) pl) (hdb : (x == ("__debug__" : Str)) = false := by decide)
    (he : starEach (e :: es) X.env = (false, eval e X.env) :: starEach es X.env := by rfl) (hpl : (backTo pos (starEach es X.env)).any (·.1) = false := by rfl) : DE X W (.Call (.Name x p) (e :: es) [] pos) (dCall sp dd pl) := by
  refine ⟨fun pins s σ H Q I ⟨g, ρ, M, F, O, q, w, A, pr, hw, k⟩ => ?_⟩
  refine wpAny_Call_Name_kw (ld_glob I hg hm ?_ hdb)
  refine PySem.W.callWith_K (h₀ := X.base) I.ok.mod.kin hk (thn (ha.run pos pins s σ H (fun vs H1 => toSp X.K n sp (vs ++ dvs) H1 Q fun cls d H' => W cls d σ H') I ?_) fun us s1 hh => ?_) he hpl
  · exact ⟨g, ρ, M, F, O, _, w, A, pr, hw, fun vs H1 F1 O1 M1 d1 A1 s1 r1 q1 => call_reading hn hd A1 (hw.mono s1) r1 (hlen _ _ _ _ q1) q1 fun v H2 F2 O2 M2 d2 A2 s2 r2 q2 => k v H2 F2 O2 M2 d2 A2 (s1.trans s2) r2 q2⟩
  · obtain ⟨vs, H1, I1, r, q1⟩ := hh
    exact ⟨I1.kIn, run_g Fg hr hG hb hv tk I1 r q1⟩
theorem de_call (Fg : FnG X.prog X.w X.K X.mg X.base k f fd ps (toSp X.K n sp)) (hn : ps.length = n) (hlen : ∀ ds M q e, sp ds M q e → ds.length = n) (hr : Room k X.A) (hG : X.A.guards = some []) (hg : Gl X x) (hm : X.mg x = some (.ref f))
    (hk : PySem.W.keepIn X.K (.ref f) = true) (hb : Binds X.K fd ps []) (tk : Takes X W) (ha : DA X W (e :: es) pl) (hdb : (x == ("__debug__" : Str)) = false := by decide)
    (he : starEach (e :: es) X.env = (false, eval e X.env) :: starEach es X.env := by rfl) (hpl : (backTo pos (starEach es X.env)).any (·.1) = false := by rfl) : DE X W (.Call (.Name x p) (e :: es) [] pos) (dCall sp [] pl) :=
  de_callD Fg hn hlen hr hG hg hm hk hb .nil (fun _ => rfl) tk ha hdb he hpl
end
end Px
set_option Elab.async false
set_option linter.all false
set_option maxRecDepth 100000
namespace Px
open PySem PySem.Spec PyProof.Rows L2
section
variable {X : Cx} {W : WX} {st1 : Stmt} {rest ss tt : List Stmt} {e c : Expr} {pe : PTE} {pl : PTA} {pt : PTT} {p p2 : PTS} {pos : Pos}
def dNext : PTS := fun _ P ρ M => P.nx ρ M
def dSeq (p q : PTS) : PTS := fun w P ρ M => p w { P with nx := q w P } ρ M
theorem dss_nil : DSs X W [] dNext := pss_imp pss_nil fun D σ H ⟨g, ρ, M, F, O, P, w, A, h, hw, k1, _⟩ => k1 σ H ρ M F O A (Same.refl F) h
theorem dss_one (h : DS X W st1 p) : DSs X W [st1] p := pss_one h
theorem dss_cons (h1 : DS X W st1 p) (h2 : DSs X W rest p2) : DSs X W (st1 :: rest) (dSeq p p2) := pss_imp (pss_cons h1 h2) fun D σ H ⟨g, ρ, M, F, O, P, w, A, h, hw, k1, k2, k3, k4, k5⟩ =>
  ⟨g, ρ, M, F, O, _, w, A, h, hw, fun σ' H' ρ' M' F' O' A' s q => ⟨g, ρ', M', F', O', P, w, A', q, hw.mono s,
      fun σ2 H2 ρ2 M2 F2 O2 A2 s2 q2 => k1 σ2 H2 ρ2 M2 F2 O2 A2 (s.trans s2) q2, fun v σ2 H2 ρ2 M2 F2 O2 d A2 s2 r2 q2 => k2 v σ2 H2 ρ2 M2 F2 O2 d A2 (s.trans s2) r2 q2,
      fun σ2 H2 ρ2 M2 F2 O2 A2 s2 q2 => k3 σ2 H2 ρ2 M2 F2 O2 A2 (s.trans s2) q2, fun σ2 H2 ρ2 M2 F2 O2 A2 s2 q2 => k4 σ2 H2 ρ2 M2 F2 O2 A2 (s.trans s2) q2, fun a xs σ2 H2 ρ2 M2 F2 O2 ds A2 s2 e1 e2 e3 e4 e5 q2 => k5 a xs σ2 H2 ρ2 M2 F2 O2 ds A2 (s.trans s2) e1 e2 e3 e4 e5 q2⟩, k2, k3, k4, k5⟩
def dRet (pe : PTE) : PTS := fun w P ρ M => pe w ρ M P.rt
theorem ds_ret (h : DE X W e pe) : DS X W (.Return (some e) pos) (dRet pe) := ps_imp (ps_ret h) fun D σ H ⟨g, ρ, M, F, O, P, w, A, h, hw, k1, k2, _⟩ =>
  ⟨g, ρ, M, F, O, _, w, A, h, hw, fun v H' F' O' M' d A' s r q => k2 v σ H' ρ M' F' O' d A' s r q⟩
def dRetN : PTS := fun _ P _ M => P.rt .non M
def dDrop (pe : PTE) : PTS := fun w P ρ M => pe w ρ M fun _ M' => P.nx ρ M'
theorem ds_expr (h : DE X W e pe) (hs : swapsWith e none pos.line X.env = pure false := by rfl) : DS X W (.Expr e pos) (dDrop pe) := ps_imp (ps_expr h hs) fun D σ H ⟨g, ρ, M, F, O, P, w, A, h, hw, k1, k2, _⟩ =>
  ⟨g, ρ, M, F, O, _, w, A, h, hw, fun v H' F' O' M' d A' s r q => k1 σ H' ρ M' F' O' A' s q⟩
def dIfS (pt : PTT) (p q : PTS) : PTS := fun w P ρ M => pt w ρ M fun b M' => if b = true then p w P ρ M' else q w P ρ M'
theorem ds_if (hc : DT X W c pt) (ha : DSs X W ss p) (hb : DSs X W tt p2) : DS X W (.If c ss tt pos) (dIfS pt p p2) := ps_imp (ps_if hc ha hb) fun D σ H ⟨g, ρ, M, F, O, P, w, A, h, hw, k1, k2, k3, k4, k5⟩ =>
  ⟨g, ρ, M, F, O, _, w, A, h, hw, fun b H' F' O' M' A' s q => by
    cases b with
    | true => exact ⟨g, ρ, M', F', O', P, w, A', q, hw.mono s, fun σ2 H2 ρ2 M2 F2 O2 A2 s2 q2 => k1 σ2 H2 ρ2 M2 F2 O2 A2 (s.trans s2) q2, fun v σ2 H2 ρ2 M2 F2 O2 d A2 s2 r2 q2 => k2 v σ2 H2 ρ2 M2 F2 O2 d A2 (s.trans s2) r2 q2,
      fun σ2 H2 ρ2 M2 F2 O2 A2 s2 q2 => k3 σ2 H2 ρ2 M2 F2 O2 A2 (s.trans s2) q2, fun σ2 H2 ρ2 M2 F2 O2 A2 s2 q2 => k4 σ2 H2 ρ2 M2 F2 O2 A2 (s.trans s2) q2, fun a xs σ2 H2 ρ2 M2 F2 O2 ds A2 s2 e1 e2 e3 e4 e5 q2 => k5 a xs σ2 H2 ρ2 M2 F2 O2 ds A2 (s.trans s2) e1 e2 e3 e4 e5 q2⟩
    | false => exact ⟨g, ρ, M', F', O', P, w, A', q, hw.mono s, fun σ2 H2 ρ2 M2 F2 O2 A2 s2 q2 => k1 σ2 H2 ρ2 M2 F2 O2 A2 (s.trans s2) q2, fun v σ2 H2 ρ2 M2 F2 O2 d A2 s2 r2 q2 => k2 v σ2 H2 ρ2 M2 F2 O2 d A2 (s.trans s2) r2 q2,
      fun σ2 H2 ρ2 M2 F2 O2 A2 s2 q2 => k3 σ2 H2 ρ2 M2 F2 O2 A2 (s.trans s2) q2, fun σ2 H2 ρ2 M2 F2 O2 A2 s2 q2 => k4 σ2 H2 ρ2 M2 F2 O2 A2 (s.trans s2) q2, fun a xs σ2 H2 ρ2 M2 F2 O2 ds A2 s2 e1 e2 e3 e4 e5 q2 => k5 a xs σ2 H2 ρ2 M2 F2 O2 ds A2 (s.trans s2) e1 e2 e3 e4 e5 q2⟩⟩
abbrev PTG := D → Rho → (Rho → Prop) → Prop
abbrev PTGs := List D → Rho → (Rho → Prop) → Prop
def realG (K : PySem.W.Frag) (is : List Nat) (gd : PTG) : TG := fun v σ H Q => ∃ g ρ M F O d k, Ab K g σ H ρ M F O ∧ Rp K F d v ∧ gd d ρ k ∧
  ∀ σ' ρ', Ab K g σ' H ρ' M F O → (∀ j, j ∉ is → σ'[j]? = σ[j]? ∧ gt ρ' j = gt ρ j) → σ'.length = σ.length → k ρ' → Q σ' H
def realGs (K : PySem.W.Frag) (is : List Nat) (gd : PTGs) : TGs := fun vs σ H Q => ∃ g ρ M F O ds k, Ab K g σ H ρ M F O ∧ RpL K F ds vs ∧ gd ds ρ k ∧
  ∀ σ' ρ', Ab K g σ' H ρ' M F O → (∀ j, j ∉ is → σ'[j]? = σ[j]? ∧ gt ρ' j = gt ρ j) → σ'.length = σ.length → k ρ' → Q σ' H
abbrev DG (X : Cx) (tg : Expr) (is : List Nat) (gd : PTG) : Prop := PG X tg (realG X.K is gd)
abbrev DGs (X : Cx) (tgs : List Expr) (is : List Nat) (gd : PTGs) : Prop := PGs X tgs (realGs X.K is gd)
theorem pg_imp {tg : Expr} {t t' : TG} (h : PG X tg t) (i : ∀ v σ H Q, t' v σ H Q → t v σ H Q) : PG X tg t' := ⟨fun pins s σ H v u Q I r hw => h.run pins s σ H v u Q I r (i v σ H Q hw)⟩
theorem pgs_imp {tgs : List Expr} {t t' : TGs} (h : PGs X tgs t) (i : ∀ v σ H Q, t' v σ H Q → t v σ H Q) : PGs X tgs t' := ⟨fun pins s σ H v u Q I r hw => h.run pins s σ H v u Q I r (i v σ H Q hw)⟩
def gNm (i : Nat) : PTG := fun d ρ k => k (st ρ i (.val d))
theorem dg_nm (i : Nat) {x : Str} (hN : X.N.Nodup) (hi : X.N[i]? = some x := by rfl) (hx : Loc X.env.scope x := by first | exact Or.inl rfl | exact Or.inr rfl) (hf : X.fn x = true ∨ X.env.scope.names.lookup x = some .local := by first | exact .inl rfl | exact .inr rfl) :
    DG X (.Name x pos) [i] (gNm i) := pg_imp (pg_name hN hi hx hf) fun v σ H Q ⟨g, ρ, M, F, O, d, k, A, r, h, q⟩ =>
  q _ _ (A.put r) (fun j hj => ⟨List.getElem?_set_ne (by intro z; exact hj (by simp [z])), gt_st_ne (by intro z; exact hj (by simp [z]))⟩) (List.length_set ..) h
def gsNil : PTGs := fun ds ρ k => match ds with | [] => k ρ | _ => False
def gsCons (gd : PTG) (gs : PTGs) : PTGs := fun ds ρ k => match ds with | d :: r => gd d ρ fun ρ' => gs r ρ' k | _ => False
theorem dgs_nil : DGs X [] [] gsNil := pgs_imp pgs_nil fun vs σ H Q ⟨g, ρ, M, F, O, ds, k, A, r, h, q⟩ => by
  cases ds with
  | nil => exact ⟨r, q σ ρ A (fun _ _ => ⟨rfl, rfl⟩) rfl h⟩
  | cons d r => exact (show False from h).elim
theorem dgs_cons {tg : Expr} {tgs : List Expr} {i1 i2 : List Nat} {gd : PTG} {gs : PTGs} (h1 : DG X tg i1 gd) (h2 : DGs X tgs i2 gs) (hs : (assignEach (tg :: tgs) X.env).map (·.2) = assign tg X.env :: (assignEach tgs X.env).map (·.2) := by rfl) : DGs X (tg :: tgs) (i1 ++ i2) (gsCons gd gs) :=
  pgs_imp (pgs_cons h1 h2 hs) fun vs σ H Q ⟨g, ρ, M, F, O, ds, k, A, r, h, q⟩ => by
    cases ds with
    | nil => exact (show False from h).elim
    | cons d ds =>
      obtain ⟨x, xs, e, rd, rl⟩ := r
      exact ⟨x, xs, e, g, ρ, M, F, O, d, _, A, rd, h, fun σ' ρ' A' n1 l1 h' => ⟨g, ρ', M, F, O, ds, k, A', rl, h', fun σ2 ρ2 A2 n2 l2 h2 =>
        q σ2 ρ2 A2 (fun j hj => ⟨(n2 j fun z => hj (List.mem_append_right _ z)).1.trans (n1 j fun z => hj (List.mem_append_left _ z)).1, (n2 j fun z => hj (List.mem_append_right _ z)).2.trans (n1 j fun z => hj (List.mem_append_left _ z)).2⟩) (l2.trans l1) h2⟩⟩
def gTp (n : Nat) (gs : PTGs) : PTG := fun d ρ k => match d with | .tup l => l.length = n ∧ gs l ρ k | _ => False
theorem dg_tup {es : List Expr} {k : Nat} {n : Nat} {is : List Nat} {gs : PTGs} (hc : X.calm = true) (h : DGs X es is gs) (hn : (assignEach es X.env).length = n := by rfl) (hst : (assignEach es X.env).findIdx? (·.1) = none := by rfl) : DG X (.Tuple es k pos) is (gTp n gs) :=
  pg_imp (pg_tup hc h hn hst) fun v σ H Q ⟨g, ρ, M, F, O, d, k, A, r, h, q⟩ => by
    cases d with
    | tup l =>
      obtain ⟨a, xs, e, s, rl⟩ := r
      exact ⟨a, xs, e, same_t A.sub s, by rw [← rl.len]; exact h.1, g, ρ, M, F, O, l, k, A, rl, h.2, q⟩
    | _ => exact (show False from h).elim
def dAsg (pe : PTE) (gd : PTG) : PTS := fun w P ρ M => pe w ρ M fun d M' => gd d ρ fun ρ' => P.nx ρ' M'
theorem ds_asg {tg : Expr} {is : List Nat} {gd : PTG} (he : DE X W e pe) (hg : DG X tg is gd) (hs : swapsWithSole [tg] e pos.line X.env = pure false := by rfl) (hw : swappedStores [tg] e X.env = pure none := by rfl)
    (h1 : (assignEach [tg] X.env).map (·.2) = [assign tg X.env] := by rfl) : DS X W (.Assign [tg] e pos) (dAsg pe gd) := ps_imp (ps_asg he hg hs hw h1) fun D σ H ⟨g, ρ, M, F, O, P, w, A, h, hw, k1, _⟩ =>
  ⟨g, ρ, M, F, O, _, w, A, h, hw, fun v H' F' O' M' d A' s r q => ⟨g, ρ, M', F', O', d, _, A', r, q, fun σ' ρ' A2 _ _ q2 => k1 σ' H' ρ' M' F' O' A2 s q2⟩⟩
def dSet (i : Nat) (pe : PTE) : PTS := fun w P ρ M => pe w ρ M fun d M' => P.nx (st ρ i (.val d)) M'
theorem ds_set (i : Nat) {x : Str} {pos' : Pos} (hN : X.N.Nodup) (he : DE X W e pe) (hi : X.N[i]? = some x := by rfl) (hx : Loc X.env.scope x := by first | exact Or.inl rfl | exact Or.inr rfl) (hs : swapsWith e (some (.Name x pos')) pos.line X.env = pure false := by rfl)
    (hf : X.fn x = true ∨ X.env.scope.names.lookup x = some .local := by first | exact .inl rfl | exact .inr rfl) : DS X W (.Assign [.Name x pos'] e pos) (dSet i pe) := ps_imp (ps_set hN hi hx he hs hf) fun D σ H ⟨g, ρ, M, F, O, P, w, A, h, hw, k1, _⟩ =>
  ⟨g, ρ, M, F, O, _, w, A, h, hw, fun v H' F' O' M' d A' s r q => k1 _ H' _ M' F' O' (A'.put r) s q⟩
def dSetO (i : Nat) (pl : PTA) : PTS := fun w P ρ M => pl w ρ M fun ds M' => P.nx (st ρ i (.own ds)) M'
theorem ds_setO (i : Nat) {x : Str} {pos' : Pos} (hN : X.N.Nodup) (he : DL X W e pl) (hi : X.N[i]? = some x := by rfl) (hx : Loc X.env.scope x := by first | exact Or.inl rfl | exact Or.inr rfl) (hs : swapsWith e (some (.Name x pos')) pos.line X.env = pure false := by rfl)
    (hf : X.fn x = true ∨ X.env.scope.names.lookup x = some .local := by first | exact .inl rfl | exact .inr rfl) : DS X W (.Assign [.Name x pos'] e pos) (dSetO i pl) := ps_imp (ps_set hN hi hx he hs hf) fun D σ H ⟨g, ρ, M, F, O, P, w, A, h, hw, k1, _⟩ =>
  ⟨g, ρ, M, F, O, _, w, A, h, hw, fun a xs H' F' O' M' ds A' s hH r hF hO h0 q => k1 _ H' _ M' F' _ (A'.putOwn hH r hF hO h0) s q⟩
def ls2 (ds : List D) (k : D → D → Prop) : Prop := match ds with | [a, b] => k a b | _ => False
def ls3 (ds : List D) (k : D → D → D → Prop) : Prop := match ds with | [a, b, c] => k a b c | _ => False
theorem ls2_of {ds : List D} {k : D → D → Prop} (h : ls2 ds k) : ∃ a b, ds = [a, b] ∧ k a b := by
  unfold ls2 at h
  split at h
  · exact ⟨_, _, rfl, h⟩
  · exact h.elim
def dPar (i j : Nat) (pl : PTA) : PTS := fun w P ρ M => pl w ρ M fun ds M' => ls2 ds fun a b => P.nx (st (st ρ i (.val a)) j (.val b)) M'
theorem ds_par (i j : Nat) {x y : Str} {a b : Expr} {px py pt : Pos} {kt k2 pt2} (hc : X.calm = true) (hN : X.N.Nodup) (ha : DA X W [a, b] pl) (hi : X.N[i]? = some x := by rfl) (hj : X.N[j]? = some y := by rfl) (hij : i ≠ j := by decide)
    (hx : X.env.scope.names.lookup x = some .local := by rfl) (hy : X.env.scope.names.lookup y = some .local := by rfl)
    (hw : swappedStores [.Tuple [.Name x px, .Name y py] kt pt] (.Tuple [a, b] k2 pt2) X.env = pure (some [x, y]) := by rfl)
    (hs : swapsWithSole [.Tuple [.Name x px, .Name y py] kt pt] (.Tuple [a, b] k2 pt2) pos.line X.env = pure false := by rfl) : DS X W (.Assign [.Tuple [.Name x px, .Name y py] kt pt] (.Tuple [a, b] k2 pt2) pos) (dPar i j pl) :=
  ps_imp (ps_par hc hN hi hj hij hx hy ha hw hs) fun D σ H ⟨g, ρ, M, F, O, P, w, A, h, hw, k1, _⟩ =>
  ⟨g, ρ, M, F, O, _, w, A, h, hw, fun vs H' F' O' M' ds A' s r q => by
      obtain ⟨a, b, rfl, q⟩ := ls2_of q
      obtain ⟨v, x1, e1, ra, u, x2, e2, rb, e3⟩ := r
      have e3 : x2 = [] := e3
      subst e3 e2 e1
      exact ⟨v, u, rfl, k1 _ H' _ M' F' O' ((A'.put ra).put rb) s q⟩⟩
def dPar3 (i j l : Nat) (pl : PTA) : PTS := fun w P ρ M => pl w ρ M fun ds M' => ls3 ds fun a b c => P.nx (st (st (st ρ i (.val a)) j (.val b)) l (.val c)) M'
def dFrz (i : Nat) (p : PTS) : PTS := fun w P ρ M => match gt ρ i with | some (.own l) => p w P (st ρ i (.val (.lst l))) M | _ => p w P ρ M
theorem frz_run {K : PySem.W.Frag} {i : Nat} {D : Ends} {σ : L2.St} {H : Hp} (h : realS K W (dFrz i p) D σ H) : realS K W p D σ H := by
  obtain ⟨g, ρ, M, F, O, P, w, A, h, hw, k1, k2, k3, k4, k5⟩ := h
  unfold dFrz at h
  split at h
  · rename_i l e
    obtain ⟨F', O', A', s⟩ := A.frz e
    exact ⟨g, _, M, F', O', P, w, A', h, hw.mono s, fun σ2 H2 ρ2 M2 F2 O2 A2 s2 q2 => k1 σ2 H2 ρ2 M2 F2 O2 A2 (s.trans s2) q2, fun v σ2 H2 ρ2 M2 F2 O2 d A2 s2 r2 q2 => k2 v σ2 H2 ρ2 M2 F2 O2 d A2 (s.trans s2) r2 q2,
      fun σ2 H2 ρ2 M2 F2 O2 A2 s2 q2 => k3 σ2 H2 ρ2 M2 F2 O2 A2 (s.trans s2) q2, fun σ2 H2 ρ2 M2 F2 O2 A2 s2 q2 => k4 σ2 H2 ρ2 M2 F2 O2 A2 (s.trans s2) q2, fun a xs σ2 H2 ρ2 M2 F2 O2 ds A2 s2 e1 e2 e3 e4 e5 q2 => k5 a xs σ2 H2 ρ2 M2 F2 O2 ds A2 (s.trans s2) e1 e2 e3 e4 e5 q2⟩
  · exact ⟨g, ρ, M, F, O, P, w, A, h, hw, k1, k2, k3, k4, k5⟩
theorem ds_frz (i : Nat) (h : DS X W st1 p) : DS X W st1 (dFrz i p) := ps_imp h fun D σ H hh => frz_run hh
def dWhile (pt : PTT) (pb : PTS) : PTS := fun w P ρ M => ∃ V : Nat → Rho → Mm → Prop, (∃ m, V m ρ M) ∧ ∀ m ρ M, V m ρ M → pt w ρ M fun b M' =>
  if b = true then pb w { P with nx := fun ρ2 M2 => ∃ m', m' < m ∧ V m' ρ2 M2, ct := fun ρ2 M2 => ∃ m', m' < m ∧ V m' ρ2 M2, bk := P.nx } ρ M' else P.nx ρ M'
theorem ds_while (hp : PassesOwn (model X.prog X.w) X.A X.env X.xe) (hc : DT X W c pt) (hb : DSs X W ss p) : DS X W (.While c ss [] pos) (dWhile pt p) := ps_imp (ps_while hp hc hb) fun D σ H ⟨g, ρ, M, F, O, P, w, A, ⟨V, ⟨m0, v0⟩, turn⟩, hw, k1, k2, k3, k4, k5⟩ => by
  refine ⟨fun m σ' H' => ∃ ρ' M' F' O', Ab X.K g σ' H' ρ' M' F' O' ∧ Same F F' ∧ V m ρ' M', ⟨m0, ρ, M, F, O, A, Same.refl F, v0⟩, ?_⟩
  rintro m σ1 H1 ⟨ρ1, M1, F1, O1, A1, s1, v1⟩
  refine ⟨g, ρ1, M1, F1, O1, _, w, A1, turn m ρ1 M1 v1, hw.mono s1, fun b H2 F2 O2 M2 A2 s2 q => ?_⟩
  cases b with
  | true =>
    rw [if_pos rfl] at q ⊢
    refine ⟨fun σ' H' => ∃ m', m' < m ∧ ∃ ρ' M' F' O', Ab X.K g σ' H' ρ' M' F' O' ∧ Same F F' ∧ V m' ρ' M', fun σ' H' h => h, ?_⟩
    refine ⟨g, ρ1, M2, F2, O2, _, w, A2, q, (hw.mono s1).mono s2, ?_, ?_, ?_, ?_, fun a xs σ3 H3 ρ3 M3 F3 O3 ds A3 s3 e1 e2 e3 e4 e5 q3 => k5 a xs σ3 H3 ρ3 M3 F3 O3 ds A3 ((s1.trans s2).trans s3) e1 e2 e3 e4 e5 q3⟩
    · intro σ3 H3 ρ3 M3 F3 O3 A3 s3 ⟨m', hm, v3⟩
      exact ⟨m', hm, ρ3, M3, F3, O3, A3, (s1.trans s2).trans s3, v3⟩
    · intro v σ3 H3 ρ3 M3 F3 O3 d A3 s3 r3 q3
      exact k2 v σ3 H3 ρ3 M3 F3 O3 d A3 ((s1.trans s2).trans s3) r3 q3
    · intro σ3 H3 ρ3 M3 F3 O3 A3 s3 q3
      exact k1 σ3 H3 ρ3 M3 F3 O3 A3 ((s1.trans s2).trans s3) q3
    · intro σ3 H3 ρ3 M3 F3 O3 A3 s3 ⟨m', hm, v3⟩
      exact ⟨m', hm, ρ3, M3, F3, O3, A3, (s1.trans s2).trans s3, v3⟩
  | false =>
    rw [if_neg Bool.false_ne_true] at q ⊢
    exact k1 σ1 H2 ρ1 M2 F2 O2 A2 (s1.trans s2) q
end
structure Wk (K : PySem.W.Frag) (J : It) (F : Hp) (ds : List D) : Prop where
  go : ∀ g σ ρ M F' O H i, Ab K g σ H ρ M F' O → Same F F' → i < ds.length → J.go i H
  yl : ∀ g σ ρ M F' O H i x H' d, Ab K g σ H ρ M F' O → Same F F' → J.yld i H x H' → ds[i]? = some d → ∃ F2, Ab K g σ H' ρ M F2 O ∧ Same F' F2 ∧ Rp K F2 d x
  sp : ∀ g σ ρ M F' O H, Ab K g σ H ρ M F' O → Same F F' → J.stop ds.length H
def realI (K : PySem.W.Frag) (W : WX) (p : PTA) : TI := fun σ H R => ∃ g ρ M F O q w, Ab K g σ H ρ M F O ∧ p w ρ M q ∧ WOk K g F W w ∧
  ∀ J H' F' O' M' ds, Ab K g σ H' ρ M' F' O' → Same F F' → Wk K J F' ds → q ds M' → R J H'
abbrev DI (X : Cx) (W : WX) (tg e : Expr) (p : PTA) : Prop := PI X tg e (realI X.K W p)
section
variable {X : Cx} {W : WX} {tg e a b : Expr} {pe pa pb : PTE} {pl : PTA} {pos p : Pos}
theorem pi_imp {t t' : TI} (h : PI X tg e t) (i : ∀ σ H R, t' σ H R → t σ H R) : PI X tg e t' := ⟨fun pins s σ H R I hw => h.run pins s σ H R I (i σ H R hw)⟩
theorem wk_list {K : PySem.W.Frag} {F : Hp} {a : Addr} {xs : List V} {ds : List D} (h : SqL K F a xs) (r : RpL K F ds xs) : Wk K (Itl K a) F ds where
  go := fun g σ ρ M F' O H i A s hi => ⟨xs, xs[i]'(by rw [← r.len]; exact hi), same_l (s.trans A.sub) h, List.getElem?_eq_getElem _⟩
  yl := fun g σ ρ M F' O H i x H' d A s ⟨e, hx⟩ hd => by
    obtain ⟨y, h1, h2⟩ := r.get hd
    have e2 := hx xs (same_l (s.trans A.sub) h)
    rw [h1] at e2
    cases e2
    exact ⟨F', by rw [e]; exact A, Same.refl F', Rp.mono s _ _ h2⟩
  sp := fun g σ ρ M F' O H A s => ⟨xs, same_l (s.trans A.sub) h, Nat.le_of_eq r.len.symm⟩
theorem wk_tup {K : PySem.W.Frag} {F : Hp} {a : Addr} {xs : List V} {ds : List D} (h : SqT K F a xs) (r : RpL K F ds xs) : Wk K (Itt K a) F ds where
  go := fun g σ ρ M F' O H i A s hi => ⟨xs, xs[i]'(by rw [← r.len]; exact hi), same_t (s.trans A.sub) h, List.getElem?_eq_getElem _⟩
  yl := fun g σ ρ M F' O H i x H' d A s ⟨e, hx⟩ hd => by
    obtain ⟨y, h1, h2⟩ := r.get hd
    have e2 := hx xs (same_t (s.trans A.sub) h)
    rw [h1] at e2
    cases e2
    exact ⟨F', by rw [e]; exact A, Same.refl F', Rp.mono s _ _ h2⟩
  sp := fun g σ ρ M F' O H A s => ⟨xs, same_t (s.trans A.sub) h, Nat.le_of_eq r.len.symm⟩
def rngD (lo : Int) (n : Nat) : List D := (List.range n).map fun (i : Nat) => .int (lo + (i : Int))
theorem wk_range {K : PySem.W.Frag} {F : Hp} {lo : Int} {n : Nat} : Wk K (Itr lo n) F (rngD lo n) where
  go := fun g σ ρ M F' O H i A s hi => by
    unfold rngD at hi
    rw [List.length_map, List.length_range] at hi
    exact hi
  yl := fun g σ ρ M F' O H i x H' d A s ⟨e, hx⟩ hd => by
    subst e
    unfold rngD at hd
    rw [List.getElem?_map] at hd
    cases q : (List.range n)[i]? with
    | none => rw [q] at hd; cases hd
    | some j =>
      rw [q] at hd
      cases hd
      have e2 : j = i := by
        obtain ⟨h1, h2⟩ := List.getElem?_eq_some_iff.mp q
        rw [List.getElem_range] at h2
        exact h2.symm
      subst e2
      exact ⟨F', A, Same.refl F', hx⟩
  sp := fun g σ ρ M F' O H A s => by
    unfold rngD
    rw [List.length_map, List.length_range]
    exact Nat.le_refl _
def iL (pe : PTE) : PTA := fun w ρ M q => pe w ρ M fun d M' => match d with | .lst l => q l M' | .scr ns => q (ns.map .int) M' | _ => False
def iT (pe : PTE) : PTA := fun w ρ M q => pe w ρ M fun d M' => match d with | .tup l => q l M' | _ => False
theorem di_list (h : DE X W e pe) : DI X W tg e (iL pe) := pi_imp (pi_list h) fun σ H R ⟨g, ρ, M, F, O, q, w, A, pr, hw, k⟩ =>
  ⟨g, ρ, M, F, O, _, w, A, pr, hw, fun v H' F' O' M' d A' s r q => by
    cases d with
    | lst l =>
      obtain ⟨a, xs, e, hs, rl⟩ := r
      exact ⟨a, e, ⟨xs, .inl (.inl (A'.sub _ _ hs))⟩, k _ H' F' O' M' l A' s (wk_list (.inl (.inl hs)) rl) q⟩
    | scr ns =>
      obtain ⟨a, e, hs⟩ := r
      exact ⟨a, e, ⟨_, same_l A'.sub hs⟩, k _ H' F' O' M' _ A' s (wk_list hs (RpL.of_ints ns)) q⟩
    | _ => exact (show False from q).elim⟩
theorem di_tup (h : DE X W e pe) : DI X W tg e (iT pe) := pi_imp (pi_tup h) fun σ H R ⟨g, ρ, M, F, O, q, w, A, pr, hw, k⟩ =>
  ⟨g, ρ, M, F, O, _, w, A, pr, hw, fun v H' F' O' M' d A' s r q => by
    cases d with
    | tup l =>
      obtain ⟨a, xs, e, hs, rl⟩ := r
      exact ⟨a, e, ⟨xs, same_t A'.sub hs⟩, k _ H' F' O' M' l A' s (wk_tup hs rl) q⟩
    | _ => exact (show False from q).elim⟩
def iR1 (pa : PTE) : PTA := fun w ρ M q => pa w ρ M fun d M' => match d with | .int n => -1000000 ≤ n ∧ n ≤ 1000000 ∧ q (rngD 0 n.toNat) M' | _ => False
def iR2 (pa pb : PTE) : PTA := fun w ρ M q => pa w ρ M fun x M1 => pb w ρ M1 fun y M2 => match x, y with | .int m, .int n => -1000000 ≤ m ∧ m ≤ 1000000 ∧ -1000000 ≤ n ∧ n ≤ 1000000 ∧ q (rngD m (n - m).toNat) M2 | _, _ => False
theorem di_r1 (hg : Gl X "range") (hm : X.mg "range" = none) (ha : DE X W a pa) (he : starEach [a] X.env = (false, eval a X.env) :: starEach [] X.env := by rfl) (hs : starEach [a] X.env = [(false, eval a X.env)] := by rfl) : DI X W tg (.Call (.Name "range" p) [a] [] pos) (iR1 pa) :=
  pi_imp (pi_range1 hg hm (pa_cons ha pa_nil he) hs) fun σ H R ⟨g, ρ, M, F, O, q, w, A, pr, hw, k⟩ =>
  ⟨g, ρ, M, F, O, _, w, A, pr, hw, fun v H' F' O' M' d A' s r q => by
    cases d with
    | int n => exact ⟨n, by rw [show v = .int n from r], by have := q.1; omega, by have := q.2.1; omega, k _ H' F' O' M' _ A' s wk_range q.2.2⟩
    | _ => exact (show False from q).elim⟩
def enumD : Nat → List D → List D
  | _, [] => []
  | n, d :: r => .tup [.int n, d] :: enumD (n + 1) r
theorem enumD_get : ∀ (l : List D) (n i : Nat), (enumD n l)[i]? = (l[i]?).map fun d => .tup [.int ((n + i : Nat) : Int), d]
  | [], n, i => by simp [enumD]
  | d :: r, n, 0 => by simp [enumD]
  | d :: r, n, i + 1 => by
    show (enumD (n + 1) r)[i]? = _
    rw [enumD_get r (n + 1) i]
    have e : n + 1 + i = n + (i + 1) := by omega
    rw [e]
    rfl
theorem enumD_len : ∀ (l : List D) (n : Nat), (enumD n l).length = l.length
  | [], _ => rfl
  | d :: r, n => by show (enumD (n + 1) r).length + 1 = _; rw [enumD_len r]; rfl
theorem wk_enum {K : PySem.W.Frag} {F : Hp} {a : Addr} {xs : List V} {ds : List D} (h : SqL K F a xs) (r : RpL K F ds xs) : Wk K (Ite K a) F (enumD 0 ds) where
  go := fun g σ ρ M F' O H i A s hi => by
    rw [enumD_len] at hi
    exact ⟨xs, xs[i]'(by rw [← r.len]; exact hi), same_l (s.trans A.sub) h, List.getElem?_eq_getElem _⟩
  yl := fun g σ ρ M F' O H i x H' d A s ⟨T, y, ex, hT, eH, hx⟩ hd => by
    rw [enumD_get] at hd
    cases q : ds[i]? with
    | none => rw [q] at hd; cases hd
    | some d0 =>
      rw [q] at hd
      cases hd
      obtain ⟨z, h1, h2⟩ := r.get q
      have e2 := hx xs (same_l (s.trans A.sub) h)
      rw [h1] at e2
      have e3 : z = y := Option.some.inj e2
      subst e3 eH ex
      have sn := same_new (o := .tup [.int (i : Nat), z]) (A.f0 hT)
      exact ⟨_, A.lay hT, sn, T, _, rfl, .inl (.inl upd_same), .int (i : Nat), _, rfl, by rw [Nat.zero_add]; rfl, z, _, rfl, Rp.mono (s.trans sn) _ _ h2, rfl⟩
  sp := fun g σ ρ M F' O H A s => ⟨xs, same_l (s.trans A.sub) h, by rw [enumD_len, r.len]; exact Nat.le_refl _⟩
end
def forR (gd : PTG) (pb : PTS) (w : PWi) : List D → PEnds → Rho → Mm → Prop
  | [], P, ρ, M => P.nx ρ M
  | x :: r, P, ρ, M => gd x ρ fun ρ' => pb w { P with nx := forR gd pb w r P, ct := forR gd pb w r P, bk := P.nx } ρ' M
def dFor (pl : PTA) (gd : PTG) (pb : PTS) : PTS := fun w P ρ M => pl w ρ M fun ds M' => forR gd pb w ds P ρ M'
section
variable {X : Cx} {W : WX} {tg e : Expr} {ss : List Stmt} {pl : PTA} {gd : PTG} {is : List Nat} {pb : PTS} {pos : Pos}
theorem forR_at {w : PWi} {ds : List D} {P : PEnds} {ρ : Rho} {M : Mm} {i : Nat} {d : D} (h : ds[i]? = some d) (q : forR gd pb w (ds.drop i) P ρ M) :
    gd d ρ fun ρ' => pb w { P with nx := forR gd pb w (ds.drop (i + 1)) P, ct := forR gd pb w (ds.drop (i + 1)) P, bk := P.nx } ρ' M := by
  obtain ⟨hi, e⟩ := List.getElem?_eq_some_iff.mp h
  rw [List.drop_eq_getElem_cons hi, e] at q
  exact q
theorem ds_for (hp : PassesOwn (model X.prog X.w) X.A X.env X.xe) (hc : X.calm = true) (hi : DI X W tg e pl) (hg : DG X tg is gd) (hb : DSs X W ss pb) (hs : ∀ x, foldedSetIterable e X.env x = pure x := by intro _; rfl) : DS X W (.For tg e ss [] pos) (dFor pl gd pb) :=
  ps_imp (ps_for hp hc hi hg hb hs) fun D σ H ⟨g, ρ, M, F, O, P, w, A, h, hw, k1, k2, k3, k4, k5⟩ =>
  ⟨g, ρ, M, F, O, _, w, A, h, hw, fun J H1 F1 O1 M1 ds A1 s1 wk q => by
    refine ⟨fun i m σ' H' => ∃ ρ' M' F' O', Ab X.K g σ' H' ρ' M' F' O' ∧ Same F1 F' ∧ i ≤ ds.length ∧ m = ds.length - i ∧ forR gd pb w (ds.drop i) P ρ' M',
      ⟨ds.length, ρ, M1, F1, O1, A1, Same.refl F1, Nat.zero_le _, rfl, q⟩, ?_⟩
    rintro i m σ2 H2 ⟨ρ2, M2, F2, O2, A2, s2, hi2, rfl, q2⟩
    by_cases hlt : i < ds.length
    · refine .inr ⟨wk.go _ _ _ _ _ _ _ i A2 s2 hlt, fun σ' H' => ∃ ρ' M' F' O', Ab X.K g σ' H' ρ' M' F' O' ∧ Same F1 F' ∧ forR gd pb w (ds.drop (i + 1)) P ρ' M', ?_, ?_⟩
      · rintro σ' H' ⟨ρ', M', F', O', A', s', q'⟩
        exact ⟨ds.length - (i + 1), by omega, ρ', M', F', O', A', s', hlt, rfl, q'⟩
      · intro x H3 y3
        have hd := List.getElem?_eq_getElem hlt
        obtain ⟨F3, A3, s3, r3⟩ := wk.yl _ _ _ _ _ _ _ i x H3 _ A2 s2 y3 hd
        have q3 := forR_at hd q2
        have w3 : WOk X.K g F3 W w := (hw.mono s1).mono (s2.trans s3)
        refine ⟨g, ρ2, M2, F3, O2, _, _, A3, r3, q3, fun σ4 ρ4 A4 _ _ q4 => ⟨g, ρ4, M2, F3, O2, _, w, A4, q4, w3, ?_, ?_, ?_, ?_, fun a xs σ5 H5 ρ5 M5 F5 O5 ds A5 s5 e1 e2 e3 e4 e5 q5 => k5 a xs σ5 H5 ρ5 M5 F5 O5 ds A5 (s1.trans ((s2.trans s3).trans s5)) e1 e2 e3 e4 e5 q5⟩⟩
        · intro σ5 H5 ρ5 M5 F5 O5 A5 s5 q5
          exact ⟨ρ5, M5, F5, O5, A5, (s2.trans s3).trans s5, q5⟩
        · intro v σ5 H5 ρ5 M5 F5 O5 d A5 s5 r5 q5
          exact k2 v σ5 H5 ρ5 M5 F5 O5 d A5 (s1.trans ((s2.trans s3).trans s5)) r5 q5
        · intro σ5 H5 ρ5 M5 F5 O5 A5 s5 q5
          exact k1 σ5 H5 ρ5 M5 F5 O5 A5 (s1.trans ((s2.trans s3).trans s5)) q5
        · intro σ5 H5 ρ5 M5 F5 O5 A5 s5 q5
          exact ⟨ρ5, M5, F5, O5, A5, (s2.trans s3).trans s5, q5⟩
    · have e : i = ds.length := by omega
      subst e
      rw [List.drop_length] at q2
      exact .inl ⟨wk.sp _ _ _ _ _ _ _ A2 s2, k1 σ2 H2 ρ2 M2 F2 O2 A2 (s1.trans s2) q2⟩⟩
end
end Px
set_option Elab.async false
set_option linter.all false
set_option maxRecDepth 100000
namespace Px
open PySem PySem.Spec PyProof.Rows L2
def un : Rho → Nat → Rho
  | [], _ => []
  | _ :: r, 0 => none :: r
  | x :: r, n + 1 => x :: un r n
def uns (ρ : Rho) : List Nat → Rho
  | [] => ρ
  | v :: vs => un (uns ρ vs) v
theorem un_len : ∀ (ρ : Rho) (i : Nat), (un ρ i).length = ρ.length
  | [], _ => rfl
  | _ :: r, 0 => rfl
  | x :: r, n + 1 => by show (un r n).length + 1 = _; rw [un_len r n]; rfl
theorem uns_len (ρ : Rho) : ∀ vs : List Nat, (uns ρ vs).length = ρ.length
  | [] => rfl
  | v :: vs => by show (un (uns ρ vs) v).length = _; rw [un_len, uns_len ρ vs]
theorem gt_un_ne : ∀ {ρ : Rho} {i j : Nat}, j ≠ i → gt (un ρ i) j = gt ρ j
  | [], _, _, _ => rfl
  | _ :: r, 0, 0, h => absurd rfl h
  | _ :: r, 0, j + 1, _ => rfl
  | x :: r, n + 1, 0, _ => rfl
  | x :: r, n + 1, j + 1, h => gt_un_ne (ρ := r) fun e => h (by rw [e])
theorem gt_un_self : ∀ {ρ : Rho} {i : Nat}, gt (un ρ i) i = none
  | [], _ => rfl
  | _ :: r, 0 => rfl
  | x :: r, n + 1 => gt_un_self (ρ := r)
theorem gt_uns {ρ : Rho} {j : Nat} : ∀ {vs : List Nat}, (j ∉ vs → gt (uns ρ vs) j = gt ρ j) ∧ (j ∈ vs → gt (uns ρ vs) j = none)
  | [] => ⟨fun _ => rfl, fun h => nomatch h⟩
  | v :: vs => by
    obtain ⟨h1, h2⟩ := gt_uns (ρ := ρ) (j := j) (vs := vs)
    by_cases e : j = v
    · subst e
      exact ⟨fun h => absurd List.mem_cons_self h, fun _ => gt_un_self⟩
    · have q : gt (uns ρ (v :: vs)) j = gt (uns ρ vs) j := gt_un_ne e
      rw [q]
      exact ⟨fun h => h1 fun z => h (List.mem_cons_of_mem _ z), fun h => h2 ((List.mem_cons.mp h).resolve_left e)⟩
theorem wipe_at {σ : L2.St} {j : Nat} : ∀ {vs : List Nat}, (j ∉ vs → (wipe σ vs)[j]? = σ[j]?) ∧ (j ∈ vs → j < σ.length → (wipe σ vs)[j]? = some none)
  | [] => ⟨fun _ => rfl, fun h => nomatch h⟩
  | v :: vs => by
    obtain ⟨h1, h2⟩ := wipe_at (σ := σ) (j := j) (vs := vs)
    show (j ∉ v :: vs → ((wipe σ vs).set v none)[j]? = σ[j]?) ∧ (j ∈ v :: vs → j < σ.length → ((wipe σ vs).set v none)[j]? = some none)
    by_cases e : j = v
    · subst e
      exact ⟨fun h => absurd List.mem_cons_self h, fun _ hl => List.getElem?_set_self (by rw [wipe_length]; exact hl)⟩
    · rw [List.getElem?_set_ne (Ne.symm e)]
      exact ⟨fun h => h1 fun z => h (List.mem_cons_of_mem _ z), fun h => h2 ((List.mem_cons.mp h).resolve_left e)⟩
theorem wipe_eq {σ σ' : L2.St} {vs : List Nat} (hl : σ'.length = σ.length) (h : ∀ j, j ∉ vs → σ'[j]? = (wipe σ vs)[j]?) : wipe σ' vs = wipe σ vs := by
  refine List.ext_getElem? fun j => ?_
  by_cases hj : j ∈ vs
  · by_cases hlt : j < σ.length
    · rw [(wipe_at (vs := vs)).2 hj hlt, (wipe_at (vs := vs)).2 hj (by rw [hl]; exact hlt)]
    · rw [List.getElem?_eq_none (by rw [wipe_length]; omega), List.getElem?_eq_none (by rw [wipe_length]; omega)]
  · rw [(wipe_at (vs := vs)).1 hj]
    exact h j hj
def okW (ρ : Rho) (vs : List Nat) : Bool := vs.all fun v => match gt ρ v with | some (.own _) => false | some (.bag _ _) => false | some (.dct _ _ _) => false | _ => true
section
variable {K : PySem.W.Frag} {g g0 : Gh} {σ : L2.St} {H H0 : Hp} {ρ : Rho} {M M0 : Mm} {F F0 : Hp} {O O0 : Own} {D0 : Addr} {l l' : List D} {xs ys : List V}
theorem Ab.wiped (A : Ab K g σ H ρ M F O) (vs : List Nat) : Ab K g (wipe σ vs) H (uns ρ vs) M F O :=
  { toWd := A.toWd, len := by rw [uns_len, wipe_length]; exact A.len, sl := fun i sv e => by
      by_cases h : i ∈ vs
      · rw [gt_uns.2 h] at e; cases e
      · rw [gt_uns.1 h] at e
        obtain ⟨v, e1, r⟩ := A.sl i sv e
        exact ⟨v, by rw [wipe_at.1 h]; exact e1, r⟩ }
theorem Ab.unwiped {vs : List Nat} (A : Ab K g (wipe σ vs) H (uns ρ vs) M F O) (A0 : Ab K g0 σ H0 ρ M0 F0 O0) (s : Same F0 F) (h : okW ρ vs = true) : Ab K g σ H ρ M F O :=
  { toWd := A.toWd, len := A0.len, sl := fun i sv e => by
      by_cases hi : i ∈ vs
      · obtain ⟨v, e1, r⟩ := A0.sl i sv e
        refine ⟨v, e1, ?_⟩
        have z := List.all_eq_true.mp h i hi
        rw [e] at z
        cases sv with
        | val d => exact Rp.mono s d v r
        | own l => cases z
        | bag d b => cases z
        | dct c kvs b => cases z
      · obtain ⟨v, e1, r⟩ := A.sl i sv (by rw [gt_uns.1 hi]; exact e)
        exact ⟨v, by rw [wipe_at.1 hi] at e1; exact e1, r⟩ }
theorem Ab.congr {ρ' : Rho} (A : Ab K g σ H ρ M F O) (hl : ρ'.length = ρ.length) (h : ∀ j, gt ρ' j = gt ρ j) : Ab K g σ H ρ' M F O :=
  { toWd := A.toWd, len := hl.trans A.len, sl := fun i sv e => A.sl i sv (by rw [← h]; exact e) }
theorem Ab.tmpNew (A : Ab K g σ H ρ M F O) (h : H D0 = some (.lst xs)) (r : RpL K F l xs) (hF : F D0 = none) (hO : O D0 = none) (h0 : g.H0 D0 = none) :
    Ab K { g with tmp := (D0, l) :: g.tmp } σ H ρ M F (fun b => if b = D0 then some .tmp else O b) := by
  have keep : ∀ b u, O b = some u → (if b = D0 then some Ow.tmp else O b) = some u := fun b u e => by rw [if_neg (fun z => by rw [z, hO] at e; cases e)]; exact e
  exact { sub := A.sub, ext0 := A.ext0, new := A.new, frm := A.frm, thr := A.thr
          liv := fun b u e => by
            by_cases z : b = D0
            · subst z; exact ⟨⟨_, h⟩, hF, .inr h0⟩
            · rw [if_neg z] at e; exact A.liv b u e
          slo := fun b u e n => by
            by_cases z : b = D0
            · subst z; exact h0
            · rw [if_neg z] at e; exact A.slo b u e n
          tm := fun p l' e => by
            rcases List.mem_cons.mp e with z | z
            · cases z; exact ⟨xs, h, r, if_pos rfl⟩
            · obtain ⟨ys, e1, e2, e3⟩ := A.tm p l' z
              exact ⟨ys, e1, e2, keep p _ e3⟩
          mu := fun b mo e => (A.mu b mo e).mono (Same.refl F) fun q u e1 e2 => ⟨e1, keep q _ e2⟩
          len := A.len
          sl := fun j sv e => by
            obtain ⟨v, e1, r⟩ := A.sl j sv e
            exact ⟨v, e1, r.mono (Same.refl F) fun q xs e1 e2 => ⟨e1, keep q _ e2⟩⟩ }
theorem Ab.grow (A : Ab K { g with tmp := (D0, l) :: g.tmp } σ H ρ M F O) (nd : ∀ q ∈ g.tmp, q.1 ≠ D0) (r : RpL K F l' ys) : Ab K { g with tmp := (D0, l') :: g.tmp } σ (upd H D0 (.lst ys)) ρ M F O := by
  obtain ⟨xs, h, _, hO⟩ := A.tm D0 l List.mem_cons_self
  have h0 : g.H0 D0 = none := A.slo D0 _ hO (fun _ z => by cases z)
  obtain ⟨_, hF, _⟩ := A.liv D0 _ hO
  have ne : ∀ b u, O b = some u → u ≠ .tmp → b ≠ D0 := fun b u e n z => by rw [z, hO] at e; exact n (Option.some.inj e).symm
  exact { sub := fun b u e => by rw [upd_ne (fun z => by rw [z, hF] at e; cases e)]; exact A.sub b u e
          ext0 := A.ext0, new := A.new
          frm := fun b u e n => by
            have e' : g.H0 b = some u := e
            rw [upd_ne (fun z => by rw [z, h0] at e'; cases e')]; exact A.frm b u e n
          thr := fun b u e => by
            have e' : g.H0 b = some u := e
            rw [upd_ne (fun z => by rw [z, h0] at e'; cases e')]; exact A.thr b u e
          liv := fun b u e => by
            obtain ⟨r1, r2⟩ := A.liv b u e
            refine ⟨?_, r2⟩
            by_cases z : b = D0
            · subst z; exact ⟨_, upd_same⟩
            · rw [upd_ne z]; exact r1
          slo := A.slo
          tm := fun p l2 e => by
            rcases List.mem_cons.mp e with z | z
            · cases z; exact ⟨ys, upd_same, r, hO⟩
            · obtain ⟨zs, e1, e2, e3⟩ := A.tm p l2 (List.mem_cons_of_mem _ z)
              exact ⟨zs, by rw [upd_ne (nd _ z)]; exact e1, e2, e3⟩
          mu := fun b mo e => (A.mu b mo e).mono (Same.refl F) fun q u e1 e2 => ⟨by rw [upd_ne (ne q _ e2 (fun z => by cases z))]; exact e1, e2⟩
          len := A.len
          sl := fun j sv e => by
            obtain ⟨v, e1, q⟩ := A.sl j sv e
            exact ⟨v, e1, q.mono (Same.refl F) fun q xs e1 e2 => ⟨by rw [upd_ne (ne q _ e2 (fun z => by cases z))]; exact e1, e2⟩⟩ }
theorem Ab.made (A : Ab K { g with tmp := (D0, l) :: g.tmp } σ H ρ M F O) (nd : ∀ q ∈ g.tmp, q.1 ≠ D0) : ∃ xs O', Ab K g σ H ρ M F O' ∧ H D0 = some (.lst xs) ∧ RpL K F l xs ∧ F D0 = none ∧ O' D0 = none ∧ g.H0 D0 = none := by
  obtain ⟨xs, h, r, hO⟩ := A.tm D0 l List.mem_cons_self
  have h0 : g.H0 D0 = none := A.slo D0 _ hO (fun _ z => by cases z)
  obtain ⟨_, hF, _⟩ := A.liv D0 _ hO
  refine ⟨xs, fun b => if b = D0 then none else O b, ?_, h, r, hF, if_pos rfl, h0⟩
  have keep : ∀ b u, O b = some u → u ≠ .tmp → (if b = D0 then none else O b) = some u := fun b u e n => by rw [if_neg (fun z => by rw [z, hO] at e; exact n (Option.some.inj e).symm)]; exact e
  exact { sub := A.sub, ext0 := A.ext0, new := A.new, frm := A.frm, thr := A.thr
          liv := fun b u e => by
            by_cases z : b = D0
            · rw [if_pos z] at e; cases e
            · rw [if_neg z] at e; exact A.liv b u e
          slo := fun b u e n => by
            by_cases z : b = D0
            · rw [if_pos z] at e; cases e
            · rw [if_neg z] at e; exact A.slo b u e n
          tm := fun p l' e => by
            obtain ⟨ys, e1, e2, e3⟩ := A.tm p l' (List.mem_cons_of_mem _ e)
            exact ⟨ys, e1, e2, by rw [if_neg (nd _ e)]; exact e3⟩
          mu := fun b mo e => (A.mu b mo e).mono (Same.refl F) fun q u e1 e2 => ⟨e1, keep q _ e2 (fun z => by cases z)⟩
          len := A.len
          sl := fun j sv e => by
            obtain ⟨v, e1, r⟩ := A.sl j sv e
            exact ⟨v, e1, r.mono (Same.refl F) fun q xs e1 e2 => ⟨e1, keep q _ e2 (fun z => by cases z)⟩⟩ }
end
abbrev W0 : WX := fun _ _ _ _ => False
abbrev w0 : PWi := fun _ _ _ _ => False
def dYes : PTT := fun _ _ M q => q true M
abbrev DTs (X : Cx) (W : WX) (ifs : List Expr) (p : PTT) : Prop := PTs X ifs (realT X.K W p)
def compR (gd : PTG) (tt : PTT) (te : PTE) (ρ : Rho) : List D → List D → Mm → (List D → Mm → Prop) → Prop
  | [], acc, M, q => q acc M
  | x :: r, acc, M, q => gd x ρ fun ρ' => tt w0 ρ' M fun b M1 => if b = true then te w0 ρ' M1 fun y M2 => acc.length < 1000000 ∧ compR gd tt te ρ r (acc ++ [y]) M2 q else compR gd tt te ρ r acc M1 q
def dComp (vs : List Nat) (pl : PTA) (gd : PTG) (tt : PTT) (te : PTE) : PTA := fun w ρ M q => okW ρ vs = true ∧ pl w ρ M fun ds M1 => compR gd tt te (uns ρ vs) ds [] M1 q
section
variable {X : Cx} {W : WX} {elt tg iter : Expr} {ifs : List Expr} {scope : Scope} {own : List (Str × Nat)} {pos : Pos} {pl : PTA} {gd : PTG} {tt : PTT} {te : PTE} {is vs : List Nat}
theorem dts_nil : DTs X W [] dYes := by
  refine ⟨fun pins s σ H Q I ⟨g, ρ, M, F, O, q, w, A, h, hw, k⟩ => ?_⟩
  exact pts_nil.run pins s σ H Q I (k true H F O M A (Same.refl F) h)
theorem dts_one {c : Expr} (h : DT X W c tt) : DTs X W [c] tt := pts_one h
theorem compR_at {ρ : Rho} {ds acc : List D} {M : Mm} {q : List D → Mm → Prop} {i : Nat} {d : D} (h : ds[i]? = some d) (k : compR gd tt te ρ (ds.drop i) acc M q) :
    gd d ρ fun ρ' => tt w0 ρ' M fun b M1 => if b = true then te w0 ρ' M1 fun y M2 => acc.length < 1000000 ∧ compR gd tt te ρ (ds.drop (i + 1)) (acc ++ [y]) M2 q else compR gd tt te ρ (ds.drop (i + 1)) acc M1 q := by
  obtain ⟨hi, e⟩ := List.getElem?_eq_some_iff.mp h
  rw [List.drop_eq_getElem_cons hi, e] at k
  exact k
theorem line_lt {n : Nat} (h : n < 1000000) : n < sizeLine := Nat.lt_of_lt_of_le h (by decide)
theorem comp_run {K : PySem.W.Frag} (hsub : ∀ j ∈ is, j ∈ vs) {σ : L2.St} {H : Hp} {Q : VK} (h : realL K W (dComp vs pl gd tt te) σ H Q) : tLc (realI K W pl) (realG K is gd) (realT K W0 tt) (real K W0 te) vs σ H Q := by
  obtain ⟨g, ρ, M, F, O, q, w, A, ⟨hW, pr⟩, hw, k⟩ := h
  refine ⟨g, ρ, M, F, O, _, w, A, pr, hw, fun J H1 F1 O1 M1 ds A1 s1 wk q1 => fun D0 hD => ?_⟩
  have nd : ∀ p ∈ g.tmp, p.1 ≠ D0 := fun p hp z => by
    obtain ⟨xs, e1, _⟩ := A1.tm p.1 p.2 hp
    rw [z, hD] at e1; cases e1
  have A2 := ((A1.laid (o := .lst []) hD).tmpNew (l := []) upd_same rfl (A1.f0 hD) (A1.o0 hD) (A1.g0 hD)).wiped vs
  refine ⟨fun i m H' => ∃ M' F' O' acc, Ab K { g with tmp := (D0, acc) :: g.tmp } (wipe σ vs) H' (uns ρ vs) M' F' O' ∧ Same F1 F' ∧ i ≤ ds.length ∧ m = ds.length - i ∧ compR gd tt te (uns ρ vs) (ds.drop i) acc M' q,
    ⟨ds.length, M1, F1, _, [], A2, Same.refl F1, Nat.zero_le _, rfl, q1⟩, ?_⟩
  rintro i m H2 ⟨M2, F2, O2, acc, A3, s3, hi2, rfl, q2⟩
  by_cases hlt : i < ds.length
  · refine .inr ⟨wk.go _ _ _ _ _ _ _ i A3 s3 hlt, fun H' => ∃ M' F' O' acc, Ab K { g with tmp := (D0, acc) :: g.tmp } (wipe σ vs) H' (uns ρ vs) M' F' O' ∧ Same F1 F' ∧ compR gd tt te (uns ρ vs) (ds.drop (i + 1)) acc M' q, ?_, ?_⟩
    · rintro H' ⟨M', F', O', acc', A', s', q'⟩
      exact ⟨ds.length - (i + 1), by omega, M', F', O', acc', A', s', hlt, rfl, q'⟩
    · intro x H3 y3
      have hd := List.getElem?_eq_getElem hlt
      obtain ⟨F3, A4, s4, r4⟩ := wk.yl _ _ _ _ _ _ _ i x H3 _ A3 s3 y3 hd
      have q3 := compR_at hd q2
      refine ⟨_, uns ρ vs, M2, F3, O2, _, _, A4, r4, q3, fun σ5 ρ5 A5 n5 l5 q5 => ?_⟩
      have ew : wipe σ5 vs = wipe σ vs := wipe_eq (by rw [l5, wipe_length]) fun j hj => (n5 j fun z => hj (hsub j z)).1
      have hl5 : ρ5.length = ρ.length := by rw [A5.len, l5, wipe_length, ← A1.len]
      have back : ∀ {H' : Hp} {M' : Mm} {F' : Hp} {O' : Own} {acc' : List D}, Ab K { g with tmp := (D0, acc') :: g.tmp } σ5 H' ρ5 M' F' O' → Ab K { g with tmp := (D0, acc') :: g.tmp } (wipe σ vs) H' (uns ρ vs) M' F' O' := fun {H' M' F' O' acc'} Z => by
        have Z2 := Z.wiped vs
        rw [ew] at Z2
        refine Z2.congr (by rw [uns_len, uns_len, hl5]) fun j => ?_
        by_cases hj : j ∈ vs
        · rw [gt_uns.2 hj, gt_uns.2 hj]
        · rw [gt_uns.1 hj, gt_uns.1 hj]
          have z := (n5 j fun z => hj (hsub j z)).2
          rw [gt_uns.1 hj] at z
          exact z.symm
      refine ⟨ew, _, ρ5, M2, F3, O2, _, w0, A5, q5, fun _ _ _ _ _ _ _ _ _ _ _ _ z => z, fun b H6 F6 O6 M6 A6 s6 q6 => ?_⟩
      cases b with
      | false =>
        rw [if_neg Bool.false_ne_true] at q6 ⊢
        exact ⟨M6, F6, O6, acc, back A6, (s3.trans s4).trans s6, q6⟩
      | true =>
        rw [if_pos rfl] at q6 ⊢
        refine ⟨_, ρ5, M6, F6, O6, _, w0, A6, q6, fun _ _ _ _ _ _ _ _ _ _ _ _ z => z, fun v H7 F7 O7 M7 d A7 s7 r7 ⟨z7, q7⟩ => ?_⟩
        obtain ⟨xs, h1, h2, _⟩ := A7.tm D0 acc List.mem_cons_self
        exact ⟨xs, h1, by rw [← h2.len]; exact line_lt z7, M7, F7, O7, _, back (A7.grow nd (h2.app (show RpL K F7 [d] [v] from ⟨v, [], rfl, r7, rfl⟩))), ((s3.trans s4).trans s6).trans s7, q7⟩
  · have e : i = ds.length := by omega
    subst e
    rw [List.drop_length] at q2
    refine .inl ⟨wk.sp _ _ _ _ _ _ _ A3 s3, ?_⟩
    have A4 := A3.unwiped A1 s3 hW
    obtain ⟨xs, O4, A5, h1, h2, h3, h4, h5⟩ := A4.made nd
    exact k D0 xs H2 F2 O4 M2 acc A5 (s1.trans s3) h1 h2 h3 h4 h5 q2
theorem dl_comp (hc : X.calm = true) (hN : X.N.Nodup) (hi : DI X W tg iter pl) (ok : BlkOk X.N X.env.scope scope own)
    (hg : ∀ (s : Shared) (H : Hp) (C : Addr) (cl : List (Str × Addr)) (fp : List Addr), DG (X.blk s H scope (compEnvC scope cl C X.env) fp) tg is gd)
    (ht : ∀ (s : Shared) (H : Hp) (C : Addr) (cl : List (Str × Addr)) (fp : List Addr), DTs (X.blk s H scope (compEnvC scope cl C X.env) fp) W0 ifs tt)
    (he : ∀ (s : Shared) (H : Hp) (C : Addr) (cl : List (Str × Addr)) (fp : List Addr), DE (X.blk s H scope (compEnvC scope cl C X.env) fp) W0 elt te) (hsub : ∀ j ∈ is, j ∈ own.map (·.2) := by decide)
    (hs : ∀ x, foldedSetIterable iter X.env x = pure x := by intro _; rfl) : DL X W (.ListComp elt [⟨tg, iter, ifs, 0⟩] scope pos) (dComp (own.map (·.2)) pl gd tt te) :=
  pe_imp (pe_lc hc hN hi ok hg ht he hs) fun σ H Q h => comp_run hsub h
theorem ds_setC (i : Nat) {y : Str} {py spos : Pos} (hc : X.calm = true) (hN : X.N.Nodup) (hsw : swapsWith (.ListComp elt [⟨tg, iter, ifs, 0⟩] scope pos) (some (.Name y py)) spos.line X.env = pure true) (hi : DI X W tg iter pl) (ok : BlkOk X.N X.env.scope scope own)
    (hg : ∀ (s : Shared) (H : Hp) (C : Addr) (cl : List (Str × Addr)) (fp : List Addr), DG (X.blk s H scope (compEnvC scope cl C X.env) fp) tg is gd)
    (ht : ∀ (s : Shared) (H : Hp) (C : Addr) (cl : List (Str × Addr)) (fp : List Addr), DTs (X.blk s H scope (compEnvC scope cl C X.env) fp) W0 ifs tt)
    (he : ∀ (s : Shared) (H : Hp) (C : Addr) (cl : List (Str × Addr)) (fp : List Addr), DE (X.blk s H scope (compEnvC scope cl C X.env) fp) W0 elt te) (hsub : ∀ j ∈ is, j ∈ own.map (·.2) := by decide)
    (hy : X.N[i]? = some y := by rfl) (hyl : X.env.scope.names.lookup y = some .local := by rfl) (hs : ∀ x, foldedSetIterable iter X.env x = pure x := by intro _; rfl) :
    DS X W (.Assign [.Name y py] (.ListComp elt [⟨tg, iter, ifs, 0⟩] scope pos) spos) (dSet i (dL (dComp (own.map (·.2)) pl gd tt te))) :=
  ps_imp (ps_setLc hc hN hy hyl hsw hi ok hg ht he hs) fun D σ H ⟨g, ρ, M, F, O, P, w, A, h, hw, k1, _⟩ => by
    refine comp_run (Q := fun x H1 => gName i x σ H1 D.nx) hsub ⟨g, ρ, M, F, O, _, w, A, h, hw, fun a xs H' F' O' M' ds A' s hH r hF hO h0 q => ?_⟩
    have s2 : Same F' (upd F' a (.lst xs)) := same_new hF
    exact k1 _ H' _ M' _ O' ((A'.freeze hH hF hO h0).put (d := .lst ds) ⟨a, xs, rfl, upd_same, RpL.mono s2 ds xs r⟩) (s.trans s2) q
theorem ds_setCO (i : Nat) {y : Str} {py spos : Pos} (hc : X.calm = true) (hN : X.N.Nodup) (hsw : swapsWith (.ListComp elt [⟨tg, iter, ifs, 0⟩] scope pos) (some (.Name y py)) spos.line X.env = pure true) (hi : DI X W tg iter pl) (ok : BlkOk X.N X.env.scope scope own)
    (hg : ∀ (s : Shared) (H : Hp) (C : Addr) (cl : List (Str × Addr)) (fp : List Addr), DG (X.blk s H scope (compEnvC scope cl C X.env) fp) tg is gd)
    (ht : ∀ (s : Shared) (H : Hp) (C : Addr) (cl : List (Str × Addr)) (fp : List Addr), DTs (X.blk s H scope (compEnvC scope cl C X.env) fp) W0 ifs tt)
    (he : ∀ (s : Shared) (H : Hp) (C : Addr) (cl : List (Str × Addr)) (fp : List Addr), DE (X.blk s H scope (compEnvC scope cl C X.env) fp) W0 elt te) (hsub : ∀ j ∈ is, j ∈ own.map (·.2) := by decide)
    (hy : X.N[i]? = some y := by rfl) (hyl : X.env.scope.names.lookup y = some .local := by rfl) (hs : ∀ x, foldedSetIterable iter X.env x = pure x := by intro _; rfl) :
    DS X W (.Assign [.Name y py] (.ListComp elt [⟨tg, iter, ifs, 0⟩] scope pos) spos) (dSetO i (dComp (own.map (·.2)) pl gd tt te)) :=
  ps_imp (ps_setLc hc hN hy hyl hsw hi ok hg ht he hs) fun D σ H ⟨g, ρ, M, F, O, P, w, A, h, hw, k1, _⟩ => by
    refine comp_run (Q := fun x H1 => gName i x σ H1 D.nx) hsub ⟨g, ρ, M, F, O, _, w, A, h, hw, fun a xs H' F' O' M' ds A' s hH r hF hO h0 q => ?_⟩
    exact k1 _ H' _ M' F' _ (A'.putOwn hH r hF hO h0) s q
end
end Px
set_option Elab.async false
set_option linter.all false
set_option maxRecDepth 100000
namespace Px
open PySem PySem.Spec PyProof.Rows L2
def dRaise (cls : Value) : PTS := fun w _ ρ M => w cls [] ρ M
section
variable {X : Cx} {W : WX}
structure ExcTxt (K : PySem.W.Frag) (mg : Str → Option Value) (x : Str) (C : Addr) : Prop where
  g : mg x = some (.ref C)
  x : PySem.W.excIn K C [.type "ValueError", .type "Exception", .type "BaseException", .type "object"] "ValueError.__new__" = true
  k : PySem.W.keepIn K (.ref C) = true
  b : PySem.W.subIn K (.ref C) (.type "BaseException") = some true
  t : PySem.W.typeIn K (.ref C) = some (.type "type")
theorem ds_raise {x m : Str} {j : Nat} {p p2 pos pos2 : Pos} {C : Addr} (hc : X.calm = true) (tk : Takes X W) (T : ExcTxt X.K X.mg x C) (hg : Gl X x) (hdb : (x == ("__debug__" : Str)) = false := by decide) :
    DS X W (.Raise (some (.Call (.Name x p) [.Constant (.str m) j p2] [] pos)) none pos2) (dRaise (.ref C)) :=
  ps_imp (ps_raise hc tk (pmk_own PySem.F.excBase_ValueError T.x T.g T.k (raises_own T.b T.t) hg hdb)) fun D σ H ⟨g, ρ, M, F, O, P, w, A, h, hw, _⟩ =>
    hw (.ref C) none σ H ρ M F O [] A (Same.refl F) rfl h
end
def ar1 (ds : List D) (f : D → Prop) : Prop := match ds with | [a] => f a | _ => False
def ar2 (ds : List D) (f : D → D → Prop) : Prop := match ds with | [a, b] => f a b | _ => False
def ar3 (ds : List D) (f : D → D → D → Prop) : Prop := match ds with | [a, b, c] => f a b c | _ => False
def ar4 (ds : List D) (f : D → D → D → D → Prop) : Prop := match ds with | [a, b, c, d] => f a b c d | _ => False
theorem ar1_of {ds : List D} {f : D → Prop} (h : ar1 ds f) : ∃ a, ds = [a] ∧ f a := by
  unfold ar1 at h
  split at h
  · exact ⟨_, rfl, h⟩
  · exact h.elim
theorem ar2_of {ds : List D} {f : D → D → Prop} (h : ar2 ds f) : ∃ a b, ds = [a, b] ∧ f a b := by
  unfold ar2 at h
  split at h
  · exact ⟨_, _, rfl, h⟩
  · exact h.elim
theorem ar3_of {ds : List D} {f : D → D → D → Prop} (h : ar3 ds f) : ∃ a b c, ds = [a, b, c] ∧ f a b c := by
  unfold ar3 at h
  split at h
  · exact ⟨_, _, _, rfl, h⟩
  · exact h.elim
theorem ar4_of {ds : List D} {f : D → D → D → D → Prop} (h : ar4 ds f) : ∃ a b c d, ds = [a, b, c, d] ∧ f a b c d := by
  unfold ar4 at h
  split at h
  · exact ⟨_, _, _, _, rfl, h⟩
  · exact h.elim
def asI (d : D) (f : Int → Prop) : Prop := match d with | .int i => f i | _ => False
theorem asI_of {d : D} {f : Int → Prop} (h : asI d f) : ∃ i, d = .int i ∧ f i := by
  unfold asI at h
  split at h
  · exact ⟨_, rfl, h⟩
  · exact h.elim
def asT (d : D) (f : List D → Prop) : Prop := match d with | .tup l => f l | _ => False
def asL (d : D) (f : List D → Prop) : Prop := match d with | .lst l => f l | _ => False
theorem asL_of {d : D} {f : List D → Prop} (h : asL d f) : ∃ l, d = .lst l ∧ f l := by
  unfold asL at h
  split at h
  · exact ⟨_, rfl, h⟩
  · exact h.elim
def updM (M : Mm) (a : Addr) (mo : Mo) : Mm := fun b => if b = a then some mo else M b
def asDraw (d : D) (M : Mm) (f : Prop) : Prop := match d with | .raw (.ref a) => M a = some .draw ∧ f | _ => False
theorem asDraw_of {d : D} {M : Mm} {f : Prop} (h : asDraw d M f) : ∃ a, d = .raw (.ref a) ∧ M a = some .draw ∧ f := by
  unfold asDraw at h
  split at h
  · exact ⟨_, rfl, h.1, h.2⟩
  · exact h.elim
def sp_begin : PSp := fun ds M q _ => ar1 ds fun d => match d with | .scr ns => ns.length ≤ 63 ∧ ∀ a, M a = none → q (.raw (.ref a)) (updM M a .draw) | _ => False
def sp_take : PSp := fun ds M q _ => ar2 ds fun d n => asDraw d M (asI n fun n => (0 < n ∧ n.natAbs.log2 < 9000) ∧ ∀ k : Int, 0 ≤ k → k < n → q (.int k) M)
section
variable {K : PySem.W.Frag} {g : Gh} {σ : L2.St} {H H' : Hp} {ρ : Rho} {M : Mm} {F F' : Hp} {O : Own} {a l p : Addr} {o : HO}
theorem Ab.poke (A : Ab K g σ H ρ M F O) (h : ∃ x, H p = some x) (hF : F p = none) (hO : O p = none) (h0 : g.H0 p = none) : Ab K g σ (upd H p o) ρ M F O := by
  have ne : ∀ b u, O b = some u → b ≠ p := fun b u e z => by rw [z, hO] at e; cases e
  exact { sub := fun b u e => by rw [upd_ne (fun z => by rw [z, hF] at e; cases e)]; exact A.sub b u e
          ext0 := A.ext0, new := A.new
          frm := fun b u e n => by rw [upd_ne (fun z => by rw [z, h0] at e; cases e)]; exact A.frm b u e n
          thr := fun b u e => by rw [upd_ne (fun z => by rw [z, h0] at e; cases e)]; exact A.thr b u e
          liv := fun b u e => by
            obtain ⟨r1, r2⟩ := A.liv b u e
            exact ⟨by rw [upd_ne (ne b u e)]; exact r1, r2⟩
          slo := A.slo
          tm := fun q l e => by
            obtain ⟨xs, e1, e2, e3⟩ := A.tm q l e
            exact ⟨xs, by rw [upd_ne (ne q _ e3)]; exact e1, e2, e3⟩
          mu := fun b mo e => (A.mu b mo e).mono (Same.refl F) fun q u e1 e2 => ⟨by rw [upd_ne (ne q _ e2)]; exact e1, e2⟩
          len := A.len
          sl := fun j sv e => by
            obtain ⟨v, e1, r⟩ := A.sl j sv e
            exact ⟨v, e1, r.mono (Same.refl F) fun q xs e1 e2 => ⟨by rw [upd_ne (ne q _ e2)]; exact e1, e2⟩⟩ }
theorem Ab.drawn {i : Nat} {big cells : List Int} {c : V} {rest turn mix : Int} (A : Ab K g σ H ρ M F O) (hi : gt ρ i = some (.own (big.map .int))) (hp : σ[i]? = some (some (.ref l))) (h : H p = some (.dK (drawKeys l c rest turn mix)))
    (hc : Rp K F (.lst (cells.map .int)) c) (hF : F p = none) (hO : O p = none) (h0 : g.H0 p = none) (hM : M p = none) (hb : big.length ≤ 63) (hl : cells.length ≤ 63) (m0 : 0 ≤ mix) (m1 : mix < 2147483629) :
    Ab K g σ H (un ρ i) (updM M p .draw) F (fun b => if b = p ∨ b = l then some (.obj p) else O b) := by
  obtain ⟨v, e1, p', xs, e2, e3, e4, e5⟩ := A.sl i _ hi
  rw [hp] at e1
  cases e1
  cases e2
  have ex := e4.ints
  subst ex
  obtain ⟨_, hFl, _⟩ := A.liv l _ e5
  have h0l : g.H0 l = none := A.slo l _ e5 (fun _ z => by cases z)
  have keep : ∀ b u, O b = some u → u ≠ .slot i → (if b = p ∨ b = l then some (Ow.obj p) else O b) = some u := fun b u e n => by
    rw [if_neg]
    · exact e
    · rintro (z | z)
      · rw [z, hO] at e; cases e
      · rw [z, e5] at e; exact n (Option.some.inj e).symm
  exact { sub := A.sub, ext0 := A.ext0, new := A.new, frm := A.frm, thr := A.thr
          liv := fun b u e => by
            by_cases z : b = p ∨ b = l
            · rcases z with z | z
              · subst z; exact ⟨⟨_, h⟩, hF, .inr h0⟩
              · subst z; exact ⟨⟨_, e3⟩, hFl, .inr h0l⟩
            · rw [if_neg z] at e; exact A.liv b u e
          slo := fun b u e n => by
            by_cases z : b = p ∨ b = l
            · rw [if_pos z] at e; exact absurd (Option.some.inj e).symm (n p)
            · rw [if_neg z] at e; exact A.slo b u e n
          tm := fun q l2 e => by
            obtain ⟨ys, e1, e2, e3⟩ := A.tm q l2 e
            exact ⟨ys, e1, e2, keep q _ e3 (fun z => by cases z)⟩
          mu := fun b mo e => by
            by_cases z : b = p
            · subst z
              have e' : mo = .draw := (Option.some.inj ((if_pos rfl).symm.trans (show (if b = b then some Mo.draw else M b) = some mo from e))).symm
              subst e'
              exact ⟨l, big, cells, c, rest, turn, mix, h, e3, hc, if_pos (.inl rfl), if_pos (.inr rfl), hb, hl, m0, m1⟩
            · have e' : M b = some mo := by
                have := e
                unfold updM at this
                rw [if_neg z] at this
                exact this
              exact (A.mu b mo e').mono (Same.refl F) fun q u e1 e2 => ⟨e1, keep q _ e2 (fun z => by cases z)⟩
          len := by rw [un_len]; exact A.len
          sl := fun j sv e => by
            by_cases z : j = i
            · subst z; rw [gt_un_self] at e; cases e
            · rw [gt_un_ne z] at e
              obtain ⟨v, e1, r⟩ := A.sl j sv e
              exact ⟨v, e1, r.mono (Same.refl F) fun q xs e1 e2 => ⟨e1, keep q _ e2 (fun y => z (by cases y; rfl))⟩⟩ }
theorem draw_after {cells big' : List Int} {c : V} {rest' turn' mix' : Int} (A : Wd K g H M F O) (hM : M a = some .draw) (hOa : O a = some (.obj a)) (hOl : O l = some (.obj a)) (hc : Rp K F (.lst (cells.map .int)) c) (hl : cells.length ≤ 63)
    (k : ∀ b o, b ≠ a → b ≠ l → H b = some o → H' b = some o) (h1 : H' a = some (.dK (drawKeys l c rest' turn' mix'))) (h2 : H' l = some (.lst (big'.map V.int))) (hb : big'.length ≤ 63) (m0 : 0 ≤ mix') (m1 : mix' < 2147483629) :
    Aft K H F O H' M F (objs O) := by
  have nf : ∀ b o, F b = some o → b ≠ a ∧ b ≠ l := fun b o e =>
    ⟨fun z => by
      obtain ⟨_, hF, _⟩ := A.liv a _ hOa
      rw [z, hF] at e; exact (nomatch e), fun z => by
      obtain ⟨_, hF, _⟩ := A.liv l _ hOl
      rw [z, hF] at e; cases e⟩
  refine ⟨?_, fun b o e => let ⟨m, e1, _⟩ := objs_of e; ⟨m, e1⟩⟩
  have thr : ∀ b o, H b = some o → ∃ o', H' b = some o' := fun b o e => by
    by_cases z : b = a
    · subst z; exact ⟨_, h1⟩
    · by_cases y : b = l
      · subst y; exact ⟨_, h2⟩
      · exact ⟨o, k b o z y e⟩
  exact { sub := fun b o e => k b o (nf b o e).1 (nf b o e).2 (A.sub b o e), ext0 := Same.refl F, new := fun b o e => .inl e
          frm := fun b o e n => k b o (fun z => n (by rw [z]; exact ⟨a, hOa⟩)) (fun z => n (by rw [z]; exact ⟨a, hOl⟩)) e
          thr := thr
          liv := fun b o e => by
            obtain ⟨m, rfl, e1⟩ := objs_of e
            obtain ⟨⟨x, hx⟩, hF, _⟩ := A.liv b _ e1
            exact ⟨thr b x hx, hF, .inl ⟨m, e1⟩⟩
          slo := fun b o e n => by
            obtain ⟨m, rfl, e1⟩ := objs_of e
            exact absurd rfl (n m)
          tm := fun p l e => absurd e (by simp)
          mu := fun b mo e => by
            by_cases z : b = a
            · subst z
              rw [hM] at e
              cases e
              exact ⟨l, big', cells, c, rest', turn', mix', h1, h2, hc, objs_to hOa, objs_to hOl, hb, hl, m0, m1⟩
            · exact (A.mu b mo e).mono (Same.refl F) fun q u e1 e2 => ⟨k q u (fun y => by rw [y, hOa] at e2; cases e2; exact z rfl) (fun y => by rw [y, hOl] at e2; cases e2; exact z rfl) e1, objs_to e2⟩ }
end
end Px
set_option Elab.async false
set_option linter.all false
set_option maxRecDepth 100000
namespace Px
open PySem PySem.Spec PyProof.Rows L2
section
variable {X : Cx} {W : WX}
def dRetDraw : PTS := fun _ P ρ M => ∃ (big ns : List Int), gt ρ 1 = some (.own (big.map .int)) ∧ gt ρ 0 = some (.val (.scr ns)) ∧ big.length ≤ 63 ∧ ns.length ≤ 63 ∧ ∀ a, M a = none → P.rt (.raw (.ref a)) (updM M a .draw)
theorem ds_retDraw {x0 x1 : Str} {p1 p2 p3 p4 p5 p6 p7 p8 p9 p10 p11 p12 pd pr : Pos} {k1 k2 k3 k4 k5 k6 k7 k8 : Nat} (h0 : X.N[0]? = some x0) (h1 : X.N[1]? = some x1) (v0 : Vis X.env.scope x0) (v1 : Vis X.env.scope x1)
    (d0 : (x0 == ("__debug__" : Str)) = false) (d1 : (x1 == ("__debug__" : Str)) = false) (c0 : (x0 == ("__classdict__" : Str)) = false) (c1 : (x1 == ("__classdict__" : Str)) = false) (hg : Gl X "list") (hm : X.mg "list" = none)
    (he : starEach [.Name x0 p3] X.env = (false, eval (.Name x0 p3) X.env) :: starEach [] X.env := by rfl) (hpl : (backTo p4 (starEach [] X.env)).any (·.1) = false := by rfl) :
    DS X W (.Return (some (.Dict [some (.Constant (.str "large") k1 p1), some (.Constant (.str "cells") k2 p5), some (.Constant (.str "rest") k3 p6), some (.Constant (.str "turn") k4 p7), some (.Constant (.str "mix") k5 p8)]
      [.Name x1 p2, .Call (.Name "list" p9) [.Name x0 p3] [] p4, .Constant (.int 0) k6 p10, .Constant (.int 0) k7 p11, .Constant (.int 7) k8 p12] pd)) pr) dRetDraw := by
  refine ps_imp (ps_ret (pe_disp (pps_cons pe_str (pv 1 h1 v1 d1 c1) (pps_cons pe_str (pe_callTy call_list_of hg hm (by decide +kernel) (pa_cons (pv 0 h0 v0 d0 c0) pa_nil he) (by decide) (by decide) he hpl)
    (pps_cons pe_str pe_int (pps_cons pe_str pe_int (pps_cons pe_str pe_int pps_nil))))) (by rfl) (by rfl) (by simp) (by simp))) fun D σ H ⟨g, ρ, M, F, O, P, w, A, h, hw, k1, k2, _⟩ => ?_
  obtain ⟨big, ns, e1, e0, hb, hn, hq⟩ := h
  obtain ⟨v, hv, l, xs, rfl, hl, rl, hO⟩ := A.sl 1 _ e1
  obtain ⟨u, hu, a, rfl, hs⟩ := A.sl 0 _ e0
  intro p hp
  have A1 := A.laid (o := .dK []) hp
  refine ⟨.ref l, hv, .ref a, hu, a, ns.map V.int, rfl, .inl (same_l A1.sub hs), fun c hc => ?_⟩
  have A2 := A1.lay (o := .lst (ns.map V.int)) hc
  have npc : p ≠ c := fun z => by rw [← z, upd_same] at hc; cases hc
  have h2p : (upd (upd H p (.dK [])) c (.lst (ns.map V.int))) p = some (.dK []) := by rw [upd_ne npc, upd_same]
  have f2p : (upd F c (.lst (ns.map V.int))) p = none := by rw [upd_ne npc]; exact A.f0 hp
  refine ⟨h2p, [(.inr "large", .ref l), (.inr "cells", .ref c), (.inr "rest", .int 0), (.inr "turn", .int 0), (.inr "mix", .int 7)], rfl, by simp, ?_⟩
  have em : mergeK [] [((.inr "large" : Key), V.ref l), (.inr "cells", .ref c), (.inr "rest", .int 0), (.inr "turn", .int 0), (.inr "mix", .int 7)] = drawKeys l (.ref c) 0 0 7 := by
    show _ = [((.inr "large" : Key), V.ref l), (.inr "cells", .ref c), (.inr "rest", .int 0), (.inr "turn", .int 0), (.inr "mix", .int 7)]
    unfold mergeK
    simp only [List.foldl]
    rfl
  rw [em]
  have A3 := A2.poke (o := .dK (drawKeys l (.ref c) 0 0 7)) ⟨_, h2p⟩ f2p (A.o0 hp) (A.g0 hp)
  have hM : M p = none := A.m0 hp
  have A4 := A3.drawn e1 hv upd_same (cells := ns) ⟨c, ns.map V.int, rfl, upd_same, RpL.of_ints ns⟩ f2p (A.o0 hp) (A.g0 hp) hM hb hn (by decide) (by decide)
  exact k2 (.ref p) σ _ _ _ _ _ (.raw (.ref p)) A4 (same_new (A.f0 (by
    by_cases z : c = p
    · exact absurd z.symm npc
    · rw [upd_ne z] at hc; exact hc))) rfl (hq p hM)
end
def rdTake (K : PySem.W.Frag) : TS :=
  tSeq (tIfS (tAnd (tTest (tOp rEq (tDGet (tVar 0) (tC (.str "rest"))) (tC (.int 0)))) (tTest (tOp (rNeD K) (tDGet (tVar 0) (tC (.str "large"))) (tLst tNil))))
      (sDPut (tVar 0) (tC (.str "rest")) (tBM K "list" rPopAt (tDGet (tVar 0) (tC (.str "large"))) (tCons (tC (.int 0)) tNil)))
      (tIfS (tTest (tOp rEq (tDGet (tVar 0) (tC (.str "rest"))) (tC (.int 0))))
        (tSeq (sDPut (tVar 0) (tC (.str "turn")) (tOp (rI0 fun i j => .int (i + j)) (tDGet (tVar 0) (tC (.str "turn"))) (tC (.int 1))))
        (tSeq (tFor (iList K (tOp rCat (tLst (tCons (tDGet (tVar 0) (tC (.str "turn"))) tNil)) (tDGet (tVar 0) (tC (.str "cells"))))) (gName 2)
            (sDPut (tVar 0) (tC (.str "mix")) (tOp (rI (fun _ j => 0 < j) fun i j => .int (i % j)) (tCB (fun xs H Q => (∃ i, xs = [.int i] ∧ Q (.int i) H) ∨ ∃ k, xs = [.bl k] ∧ Q (.int (if k then 1 else 0)) H)
              (tCons (tOp (rI0 fun i j => .int (i + j)) (tOp (rI0 fun i j => .int (i + j)) (tOp (rI CMul fun i j => .int (i * j)) (tDGet (tVar 0) (tC (.str "mix"))) (tC (.int 69621))) (tOp (rI CMul fun i j => .int (i * j)) (tVar 2) (tC (.int 48271)))) (tC (.int 12345))) tNil)) (tC (.int 2147483629)))))
          (sDPut (tVar 0) (tC (.str "rest")) (tOp (rI (fun _ j => 0 < j) fun i j => .int (i % j)) (tCB (fun xs H Q => (∃ i, xs = [.int i] ∧ Q (.int i) H) ∨ ∃ k, xs = [.bl k] ∧ Q (.int (if k then 1 else 0)) H)
              (tCons (tOp (rI CPow fun i j => .int (i ^ j.toNat)) (tDGet (tVar 0) (tC (.str "mix"))) (tC (.int 5))) tNil)) (tC (.int 2305843009213693951))))))
        tNext))
  (tSeq (tAsg (tCB (fun xs H Q => ∃ i j, xs = [.int i, .int j] ∧ CDivP i j ∧ ∀ p, H p = none → Q (.ref p) (upd H p (.tup [.int (i / j), .int (i % j)]))) (tCons (tDGet (tVar 0) (tC (.str "rest"))) (tCons (tVar 1) tNil)))
      (gTup K 2 (gCons (gSub (tVar 0) (tC (.str "rest")) rSetD) (gCons (gName 3) gNil))))
    (tRet (tVar 3)))
section
variable {H : Hp} {a l : Addr} {c : V} {r t m : Int}
theorem get_rest (h : H a = some (.dK (drawKeys l c r t m))) : DGet H a (.str "rest") (some (.int r)) := DGet.k (k := (Sum.inr "rest" : Key)) h
theorem get_turn (h : H a = some (.dK (drawKeys l c r t m))) : DGet H a (.str "turn") (some (.int t)) := DGet.k (k := (Sum.inr "turn" : Key)) h
theorem get_mix (h : H a = some (.dK (drawKeys l c r t m))) : DGet H a (.str "mix") (some (.int m)) := DGet.k (k := (Sum.inr "mix" : Key)) h
theorem get_large (h : H a = some (.dK (drawKeys l c r t m))) : DGet H a (.str "large") (some (.ref l)) := DGet.k (k := (Sum.inr "large" : Key)) h
theorem get_cells (h : H a = some (.dK (drawKeys l c r t m))) : DGet H a (.str "cells") (some c) := DGet.k (k := (Sum.inr "cells" : Key)) h
theorem keys_len : (drawKeys l c r t m).length < sizeLine := by
  show 5 < sizeLine
  decide
theorem put_rest (v : Int) (h : H a = some (.dK (drawKeys l c r t m))) : DPut H a (.str "rest") (.int v) (upd H a (.dK (drawKeys l c v t m))) := DPut.k (k := (Sum.inr "rest" : Key)) (v := .int v) h keys_len
theorem put_turn (v : Int) (h : H a = some (.dK (drawKeys l c r t m))) : DPut H a (.str "turn") (.int v) (upd H a (.dK (drawKeys l c r v m))) := DPut.k (k := (Sum.inr "turn" : Key)) (v := .int v) h keys_len
theorem put_mix (v : Int) (h : H a = some (.dK (drawKeys l c r t m))) : DPut H a (.str "mix") (.int v) (upd H a (.dK (drawKeys l c r t v))) := DPut.k (k := (Sum.inr "mix" : Key)) (v := .int v) h keys_len
end
theorem dp_ints {K : PySem.W.Frag} {H : Hp} : ∀ ns : List Int, DpAll K H (ns.map V.int) (ns.map PyData.int)
  | [] => .nil
  | n :: ns => .cons (.int n) (dp_ints ns)
theorem ints_shaped (ns : List Int) : SeqAt.shaped (.list (ns.map PyData.int)) = true := by
  have h1 : ∀ ns : List Int, PyData.canLayAll0 (ns.map PyData.int) = true ∧ PyData.depthAll (ns.map PyData.int) ≤ 0 := by
    intro ns
    induction ns with
    | nil => exact ⟨rfl, Nat.le_refl _⟩
    | cons n ns ih => exact ⟨by show (true && PyData.canLayAll0 (ns.map PyData.int)) = true; rw [ih.1]; rfl, by show max 0 (PyData.depthAll (ns.map PyData.int)) ≤ 0; omega⟩
  unfold SeqAt.shaped
  rw [Bool.and_eq_true_iff]
  exact ⟨(h1 ns).1, decide_eq_true (by show PyData.depthAll (ns.map PyData.int) + 1 ≤ 64; have := (h1 ns).2; omega)⟩
structure DrawSt (H H' : Hp) (a l : Addr) (c : V) (σ : L2.St) (n r t m : Int) (big : List Int) : Prop where
  s : ∃ y z, σ = [some (.ref a), some (.int n), y, z]
  k : ∀ b o, b ≠ a → b ≠ l → H b = some o → H' b = some o
  d : H' a = some (.dK (drawKeys l c r t m))
  b : H' l = some (.lst (big.map V.int))
section
variable {K : PySem.W.Frag} {H H' : Hp} {a l p : Addr} {c : V} {σ : L2.St} {n r t m r' t' m' : Int} {big big' : List Int} {o : HO}
theorem DrawSt.ne (S : DrawSt H H' a l c σ n r t m big) : a ≠ l := fun z => by
  have h1 := S.d
  rw [z, S.b] at h1
  cases h1
theorem DrawSt.new (S : DrawSt H H' a l c σ n r t m big) (hp : H' p = none) : DrawSt H (upd H' p o) a l c σ n r t m big where
  s := S.s
  k := fun b u h1 h2 e => by
    have z := S.k b u h1 h2 e
    rw [upd_ne (fun y => by rw [y, hp] at z; cases z)]
    exact z
  d := by rw [upd_ne (fun y => by have z := S.d; rw [y, hp] at z; cases z)]; exact S.d
  b := by rw [upd_ne (fun y => by have z := S.b; rw [y, hp] at z; cases z)]; exact S.b
theorem DrawSt.put (S : DrawSt H H' a l c σ n r t m big) : DrawSt H (upd H' a (.dK (drawKeys l c r' t' m'))) a l c σ n r' t' m' big where
  s := S.s
  k := fun b u h1 h2 e => by rw [upd_ne h1]; exact S.k b u h1 h2 e
  d := upd_same
  b := by rw [upd_ne S.ne.symm]; exact S.b
theorem take_tail {D : Ends} (S : DrawSt H H' a l c σ n r t m big) (h0 : 0 < n) (h1 : n.natAbs.log2 < 9000) (hq : ∀ H2, DrawSt H H2 a l c [some (.ref a), some (.int n), none, none] n (r / n) t m big → D.rt (.int (r % n)) H2) :
    tSeq (tAsg (tCB (fun xs H Q => ∃ i j, xs = [.int i, .int j] ∧ CDivP i j ∧ ∀ p, H p = none → Q (.ref p) (upd H p (.tup [.int (i / j), .int (i % j)]))) (tCons (tDGet (tVar 0) (tC (.str "rest"))) (tCons (tVar 1) tNil)))
      (gTup K 2 (gCons (gSub (tVar 0) (tC (.str "rest")) rSetD) (gCons (gName 3) gNil)))) (tRet (tVar 3)) D σ H' := by
  obtain ⟨y, z, rfl⟩ := S.s
  refine ⟨.ref a, rfl, a, .int r, rfl, get_rest S.d, .int n, rfl, r, n, rfl, ⟨h0, PyProof.noPylong_of_log2 h1⟩, fun p hp => ?_⟩
  have S2 := S.new (o := .tup [.int (r / n), .int (r % n)]) hp
  refine ⟨p, _, rfl, .inl (.inl upd_same), rfl, .int (r / n), [.int (r % n)], rfl, .ref a, rfl, a, _, rfl, put_rest (r / n) S2.d, .int (r % n), [], rfl, rfl, .int (r % n), rfl, ?_⟩
  have S3 := S2.put (r' := r / n) (t' := t) (m' := m)
  exact hq _ ⟨⟨none, none, rfl⟩, S3.k, S3.d, S3.b⟩
end
end Px
set_option Elab.async false
set_option linter.all false
set_option maxRecDepth 100000
namespace Px
open PySem PySem.Spec PyProof.Rows L2
theorem itT {c : Bool} {A B : Prop} (hc : c = true) (h : A) : if c = true then A else B := by
  rw [if_pos hc]
  exact h
theorem itF {c : Bool} {A B : Prop} (hc : c = false) (h : B) : if c = true then A else B := by
  rw [hc, if_neg Bool.false_ne_true]
  exact h
theorem seq0 {n : Nat} (h : 0 < n) : seqIndex? (0 : Int) n = some 0 := PySem.StrLaws.seqIndex_nonneg (i := 0) (Int.le_refl 0) (by omega)
section
variable {K : PySem.W.Frag} {H H' : Hp} {a l : Addr} {c : V} {σ : L2.St} {n r t m : Int} {big : List Int}
theorem take_mix {D : Ends} {ca : Addr} {cells : List Int} (S : DrawSt H H' a l (.ref ca) σ n r t m big) (hc : ∀ H2, DrawSt H H2 a l (.ref ca) σ n r (t + 1) m big → H2 ca = some (.lst (cells.map V.int))) (hca : ca ≠ a ∧ ca ≠ l) (hl : cells.length ≤ 63) (m0 : 0 ≤ m) (m1 : m < 2147483629)
    (hq : ∀ H2 σ2 r2 t2 m2, 0 ≤ m2 → m2 < 2147483629 → DrawSt H H2 a l (.ref ca) σ2 n r2 t2 m2 big → D.nx σ2 H2) :
    tSeq (sDPut (tVar 0) (tC (.str "turn")) (tOp (rI0 fun i j => .int (i + j)) (tDGet (tVar 0) (tC (.str "turn"))) (tC (.int 1))))
        (tSeq (tFor (iList K (tOp rCat (tLst (tCons (tDGet (tVar 0) (tC (.str "turn"))) tNil)) (tDGet (tVar 0) (tC (.str "cells"))))) (gName 2)
            (sDPut (tVar 0) (tC (.str "mix")) (tOp (rI (fun _ j => 0 < j) fun i j => .int (i % j)) (tCB (fun xs H Q => (∃ i, xs = [.int i] ∧ Q (.int i) H) ∨ ∃ k, xs = [.bl k] ∧ Q (.int (if k then 1 else 0)) H)
              (tCons (tOp (rI0 fun i j => .int (i + j)) (tOp (rI0 fun i j => .int (i + j)) (tOp (rI CMul fun i j => .int (i * j)) (tDGet (tVar 0) (tC (.str "mix"))) (tC (.int 69621))) (tOp (rI CMul fun i j => .int (i * j)) (tVar 2) (tC (.int 48271)))) (tC (.int 12345))) tNil)) (tC (.int 2147483629)))))
          (sDPut (tVar 0) (tC (.str "rest")) (tOp (rI (fun _ j => 0 < j) fun i j => .int (i % j)) (tCB (fun xs H Q => (∃ i, xs = [.int i] ∧ Q (.int i) H) ∨ ∃ k, xs = [.bl k] ∧ Q (.int (if k then 1 else 0)) H)
              (tCons (tOp (rI CPow fun i j => .int (i ^ j.toNat)) (tDGet (tVar 0) (tC (.str "mix"))) (tC (.int 5))) tNil)) (tC (.int 2305843009213693951))))) D σ H' := by
  obtain ⟨y, z, rfl⟩ := S.s
  refine ⟨.ref a, rfl, a, .int t, rfl, get_turn S.d, t, 1, rfl, rfl, .ref a, rfl, a, _, rfl, put_turn (t + 1) S.d, ?_⟩
  have S1 := S.put (r' := r) (t' := t + 1) (m' := m)
  refine ⟨.ref a, rfl, a, .int (t + 1), rfl, get_turn S1.d, by show 1 ≤ sizeLine; decide, fun p hp => ?_⟩
  have S2 := S1.new (o := .lst [.int (t + 1)]) hp
  have h2c := hc _ S2
  refine ⟨.ref a, rfl, a, .ref ca, rfl, get_cells S2.d, p, ca, _, _, rfl, rfl, upd_same, h2c, by rw [List.length_map]; exact line_big (by show 1 + cells.length ≤ 1000000; omega), fun q hq2 => ?_⟩
  have S3 := S2.new (o := .lst ([V.int (t + 1)] ++ cells.map V.int)) hq2
  refine ⟨q, rfl, ⟨_, .inl (.inl upd_same)⟩, for_list (xs := [V.int (t + 1)] ++ cells.map V.int) (fun i σ' H2 => ∃ m', 0 ≤ m' ∧ m' < 2147483629 ∧ DrawSt H H2 a l (.ref ca) σ' n r (t + 1) m' big ∧ H2 q = some (.lst ([V.int (t + 1)] ++ cells.map V.int)))
    ⟨m, m0, m1, S3, upd_same⟩ (fun i σ' H2 _ ⟨m', _, _, _, h⟩ => .inl (.inl h)) (fun i x σ' H2 hx ⟨m', h0, h1, S4, hq4⟩ => ?_) (fun σ' H2 ⟨m', h0, h1, S4, hq4⟩ => ?_)⟩
  · obtain ⟨k, rfl⟩ : ∃ k, x = V.int k := by
      rcases List.mem_append.mp (List.mem_of_getElem? hx) with z | z
      · exact ⟨_, List.mem_singleton.mp z⟩
      · obtain ⟨k, _, e⟩ := List.mem_map.mp z
        exact ⟨k, e.symm⟩
    obtain ⟨y', z', rfl⟩ := S4.s
    refine ⟨.ref a, rfl, a, .int m', rfl, get_mix S4.d, m', 69621, rfl, rfl, .inr ⟨by decide, by decide⟩, .int k, rfl, k, 48271, rfl, rfl, .inr ⟨by decide, by decide⟩, m' * 69621, k * 48271, rfl, rfl, m' * 69621 + k * 48271, 12345, rfl, rfl,
      .inl ⟨m' * 69621 + k * 48271 + 12345, rfl, m' * 69621 + k * 48271 + 12345, 2147483629, rfl, rfl, (show (0 : Int) < 2147483629 by decide), .ref a, rfl, a, _, rfl, put_mix ((m' * 69621 + k * 48271 + 12345) % 2147483629) S4.d, ?_⟩⟩
    refine ⟨(m' * 69621 + k * 48271 + 12345) % 2147483629, Int.emod_nonneg _ (by decide), Int.emod_lt_of_pos _ (by decide), ?_, ?_⟩
    · have S5 := S4.put (r' := r) (t' := t + 1) (m' := (m' * 69621 + k * 48271 + 12345) % 2147483629)
      exact ⟨⟨some (.int k), z', rfl⟩, S5.k, S5.d, S5.b⟩
    · rw [upd_ne (fun z => by have := S4.d; rw [← z, hq4] at this; cases this)]
      exact hq4
  · obtain ⟨y', z', rfl⟩ := S4.s
    refine ⟨.ref a, rfl, a, .int m', rfl, get_mix S4.d, m', 5, rfl, rfl, ⟨by decide, by decide, ?_⟩, .inl ⟨m' ^ (5 : Int).toNat, rfl, m' ^ (5 : Int).toNat, 2305843009213693951, rfl, rfl, (show (0 : Int) < 2305843009213693951 by decide), .ref a, rfl, a, _, rfl, put_rest ((m' ^ (5 : Int).toNat) % 2305843009213693951) S4.d, ?_⟩⟩
    · have e : (2 : Nat) ^ 64 = 18446744073709551616 := by decide
      rw [e]; omega
    · exact hq _ _ _ _ m' h0 h1 S4.put
end
theorem draw_is {K : PySem.W.Frag} {F H : Hp} {O : Own} {a : Addr} (h : MoOk K F H O a .draw) : ∃ (l : Addr) (big cells : List Int) (c : V) (rest turn mix : Int), H a = some (.dK (drawKeys l c rest turn mix)) ∧ H l = some (.lst (big.map V.int)) ∧ Rp K F (.lst (cells.map .int)) c ∧
      O a = some (.obj a) ∧ O l = some (.obj a) ∧ big.length ≤ 63 ∧ cells.length ≤ 63 ∧ 0 ≤ mix ∧ mix < 2147483629 := h
theorem take_run {K : PySem.W.Frag} {vs : List V} {H : Hp} {Q : VK} {E : XK} {N : List Str} (hN : N.length = 4) (h : toSp K 2 sp_take vs H Q E) : rdTake K { nx := fun _ H' => Q .non H', rt := Q } (L2.start N vs) H := by
  obtain ⟨g, F, M, O, ds, q, e, _, A, rp, hsp, hQ, _⟩ := h
  obtain ⟨d, n', rfl, h⟩ := ar2_of hsp
  obtain ⟨a, rfl, hM, h⟩ := asDraw_of h
  obtain ⟨n, rfl, ⟨hn0, hn1⟩, hk⟩ := asI_of h
  obtain ⟨v1, r1, rfl, hv1, v2, r2, rfl, hv2, hr2⟩ := rp
  have hr2 : r2 = [] := hr2
  have hv1 : v1 = .ref a := hv1
  have hv2 : v2 = .int n := hv2
  subst hr2 hv1 hv2
  obtain ⟨l, big, cells, c, rest, turn, mix, h1, h2, hc, o1, o2, hb, hl, m0, m1⟩ := draw_is (A.mu a _ hM)
  obtain ⟨ca, cxs, rfl, hF, rc⟩ := id hc
  have ex := rc.ints
  subst ex
  have nf : ∀ b o, F b = some o → b ≠ a ∧ b ≠ l := fun b o e => by
    constructor
    · intro z
      obtain ⟨_, hF, _⟩ := A.liv a _ o1
      rw [z, hF] at e
      cases e
    · intro z
      obtain ⟨_, hF, _⟩ := A.liv l _ o2
      rw [z, hF] at e
      cases e
  have es : L2.start N [V.ref a, V.int n] = [some (.ref a), some (.int n), none, none] := by
    unfold L2.start
    rw [hN]; rfl
  rw [es]
  have S : DrawSt H H a l (.ref ca) [some (.ref a), some (.int n), none, none] n rest turn mix big := ⟨⟨none, none, rfl⟩, fun _ _ _ _ e => e, h1, h2⟩
  have fin : ∀ {H2 : Hp} {σ2 : L2.St} {big2 : List Int} {r2 t2 m2 : Int}, big2.length ≤ 63 → 0 ≤ m2 → m2 < 2147483629 → DrawSt H H2 a l (.ref ca) σ2 n r2 t2 m2 big2 →
      tSeq (tAsg (tCB (fun xs H Q => ∃ i j, xs = [.int i, .int j] ∧ CDivP i j ∧ ∀ p, H p = none → Q (.ref p) (upd H p (.tup [.int (i / j), .int (i % j)]))) (tCons (tDGet (tVar 0) (tC (.str "rest"))) (tCons (tVar 1) tNil)))
        (gTup K 2 (gCons (gSub (tVar 0) (tC (.str "rest")) rSetD) (gCons (gName 3) gNil)))) (tRet (tVar 3)) { nx := fun _ H' => Q .non H', rt := Q } σ2 H2 := fun {H2 σ2 big2 r2 t2 m2} hb2 q0 q1 S2 =>
    take_tail S2 hn0 hn1 fun H3 S3 => hQ (.int (r2 % n)) H3 F (objs O) M (.int (r2 % n)) (draw_after A hM o1 o2 hc hl S3.k S3.d S3.b hb2 q0 q1) rfl (hk (r2 % n) (Int.emod_nonneg _ (by omega)) (Int.emod_lt_of_pos _ hn0))
  have mixed : ∀ {H2 : Hp} {σ2 : L2.St}, DrawSt H H2 a l (.ref ca) σ2 n rest turn mix big → _ := fun {H2 σ2} S2 =>
    take_mix (K := K) (D := { nx := tSeq (tAsg (tCB (fun xs H Q => ∃ i j, xs = [.int i, .int j] ∧ CDivP i j ∧ ∀ p, H p = none → Q (.ref p) (upd H p (.tup [.int (i / j), .int (i % j)]))) (tCons (tDGet (tVar 0) (tC (.str "rest"))) (tCons (tVar 1) tNil)))
        (gTup K 2 (gCons (gSub (tVar 0) (tC (.str "rest")) rSetD) (gCons (gName 3) gNil)))) (tRet (tVar 3)) { nx := fun _ H' => Q .non H', rt := Q }, rt := Q }) S2
      (fun H3 S3 => S3.k _ _ (nf _ _ hF).1 (nf _ _ hF).2 (A.sub _ _ hF)) (nf _ _ hF) hl m0 m1 fun H3 σ3 r3 t3 m3 q0 q1 S3 => fin hb q0 q1 S3
  refine ⟨.ref a, rfl, a, .int rest, rfl, get_rest h1, rfl, _, rfl, ?_⟩
  by_cases hr : rest = 0
  · refine itT (decide_eq_true (by rw [hr])) ?_
    refine ⟨.ref a, rfl, a, .ref l, rfl, get_large h1, Nat.zero_le _, fun p hp => ?_⟩
    have S2 := S.new (o := .lst []) hp
    refine ⟨.list (big.map PyData.int), .list [], .lst (.inl (.inl S2.b)) (dp_ints big), .lst (.inl (.inl upd_same)) .nil, ints_shaped big, ints_shaped [], _, rfl, ?_⟩
    cases big with
    | nil =>
      refine iteF ?_
      exact ⟨.ref a, rfl, a, .int rest, rfl, get_rest S2.d, rfl, _, rfl, itT (decide_eq_true (by rw [hr])) (mixed S2)⟩
    | cons b0 br =>
      refine iteT ?_
      refine ⟨.ref a, rfl, a, .ref l, rfl, get_large S2.d, .inl ⟨rfl, _, .inl (.inl S2.b)⟩, l, _, 0, 0, .int b0, rfl, rfl, S2.b, by decide, by decide, seq0 (by simp), rfl, .ref a, rfl, a,
        upd (upd (upd H p (.lst [])) l (.lst (br.map V.int))) a (.dK (drawKeys l (.ref ca) b0 turn mix)), rfl, ?_, ?_⟩
      · exact put_rest b0 (by
          show (upd (upd H p (.lst [])) l (.lst (br.map V.int))) a = _
          rw [upd_ne S2.ne]; exact S2.d)
      · refine fin (big2 := br) (by have := hb; rw [List.length_cons] at this; omega) m0 m1 (r2 := b0) (t2 := turn) (m2 := mix) ⟨⟨none, none, rfl⟩, fun b o z1 z2 e => ?_, upd_same, ?_⟩
        · rw [upd_ne z1, upd_ne z2]; exact S2.k b o z1 z2 e
        · rw [upd_ne S2.ne.symm, upd_same]
  · refine itF (decide_eq_false fun z => hr (V.int.inj z)) ?_
    refine iteF ?_
    refine ⟨.ref a, rfl, a, .int rest, rfl, get_rest h1, rfl, _, rfl, ?_⟩
    exact itF (decide_eq_false fun z => hr (V.int.inj z)) (fin hb m0 m1 S)
end Px
set_option Elab.async false
set_option linter.all false
set_option maxRecDepth 100000
namespace Px
open PySem PySem.Spec PyProof.Rows L2
def sp_law : PSp := fun ds M q _ => ar1 ds fun d => match d with | .scr ns => ns.length ≤ 63 ∧ q (.bl true) M | _ => False
def trackS (a : Addr) (o : Obj) (xs : List V) : Hp := fun b => if b = a then some (.frz o (.lst xs)) else none
theorem trackS_at {a : Addr} {o : Obj} {xs : List V} : trackS a o xs a = some (.frz o (.lst xs)) := if_pos rfl
theorem trackS_ne {a b : Addr} {o : Obj} {xs : List V} (h : b ≠ a) : trackS a o xs b = none := if_neg h
section
variable {P : Program} {w : World} {K : PySem.W.Frag} {mg mb : Str → Option Value} {k : Nat} {fa a : Addr} {fd : FuncData} {x : Str} {s₁ : Shared} {vs : List Value} {ns : List Int}
abbrev GoodEnd (s₁ : Shared) : Result → Shared → Prop := fun r s' => r = .ok (.ret (.bool true)) ∧ OldK s₁.heap s'.heap ∧ s'.os = s₁.os ∧ AllBare s'.gens
theorem law_from (H : Hp) (KX : K.In s₁.heap) (hns : s₁.heap.Ns mainGlobals mg) (hb : s₁.heap.Ns builtinsNs mb) (hbb : ∀ x : Str, x ≠ "__name__" → mb x = bootBuiltins x) (hlim : s₁.heap.NoLimit) (hg : s₁.gens = #[])
    (ha : s₁.heap.get? a = some { cls := .type "list", data := .seq vs.toArray }) (hl : ns.length ≤ 63) (hr : Room k callerA) (G : ∀ base : Heap, K.In base → base.Ns mainGlobals mg → FnG P w K mg base k fa fd [x] (toSp K 1 sp_law))
    (hbind : ∀ (s : Shared) (u : Value), BindsTo s fd ⟨[u], []⟩ [(x, u)]) (hO : ∀ b, H b = none ∨ ∃ o xs, H b = some (.frz o (.lst xs))) (hS : SqL K H a (ns.map V.int)) (hok : HOk P w H s₁.heap) (hA : ∀ b, H b ≠ none → b = a) (hK : H a ≠ none → K.lookup a = none) :
    codeAny (model P w) callerA (.call (.ref fa) ⟨[.ref a], []⟩) (GoodEnd s₁) s₁ := by
  have free_dict : ∀ {b : Addr} {u : Obj} {es : Array DictEntry} {ep : Nat}, s₁.heap.get? b = some u → u.data = .dict es ep → H b = none := by
    intro b u es ep e d
    by_cases z : H b = none
    · exact z
    · have y := hA b z
      rw [y, ha] at e
      cases e
      exact absurd (show Data.seq vs.toArray _ = Data.dict es ep from d) (fun z => by cases z)
  have ns_of : ∀ {b : Addr} {m : Str → Option Value}, s₁.heap.Ns b m → (hidT s₁.heap H).Ns b m := by
    rintro b m ⟨u, es, ep, e, d, r⟩
    exact ⟨u, es, ep, hidT_get e (free_dict e d), d, r⟩
  have kb : K.In (hidT s₁.heap H) := by
    intro b u e
    refine hidT_get (KX b u e) ?_
    by_cases z : H b = none
    · exact z
    · have y := hA b z
      rw [y] at e z
      rw [hK z] at e
      cases e
  have lim2 : (hidT s₁.heap H).NoLimit := by
    obtain ⟨mc, q1, q2⟩ := hlim
    exact ⟨mc, ns_of q1, q2⟩
  have md : Mod K mg (hidT s₁.heap H) := ⟨kb, ns_of hns, ⟨mb, ns_of hb, hbb⟩, lim2⟩
  have nofr : ∀ b ∈ frs ([] : List Env), H b = none := fun b hm => nomatch hm
  have e0 : Env0 P w K mg (hidT s₁.heap H) callerA [] s₁ H := { frames := rfl, mod := md, bs := fun b u e => of_hidT e, bsz := Nat.le_of_eq (hidT_size _ _), funs := trivial, frf := nofr, hok := hok, bare := .of_eq hg }
  have prom : toSp K 1 sp_law [.ref a] H (fun v _ => v = .bl true) (fun _ _ _ => False) := by
    refine ⟨⟨H, H, fun _ => False, []⟩, H, fun _ => none, fun _ => none, [.scr ns], fun d _ => d = .bl true, fun _ _ _ => False, rfl, ?_, ⟨.ref a, [], rfl, ⟨a, rfl, hS⟩, rfl⟩, ⟨hl, rfl⟩, fun v H' F' O' M' d _ r e => ?_, fun _ _ _ _ _ _ _ _ _ z => z⟩
    · exact { sub := fun _ _ e => e, ext0 := fun _ _ e => e, new := fun _ _ e => .inl e, frm := fun _ _ e _ => e, thr := fun _ u e => ⟨u, e⟩, liv := fun _ _ e => (nomatch e), slo := fun _ _ e => (nomatch e), tm := fun _ _ e => (nomatch e), mu := fun _ _ e => (nomatch e) }
    · have e' : d = .bl true := e
      subst e'
      exact r
  refine codeAny_mono ((G _ kb (ns_of hns)).run callerA [] s₁ H ⟨[.ref a], []⟩ [.ref a] [.ref a] _ _ hr rfl e0 (hbind s₁ (.ref a)) (.cons rfl .nil) prom) ?_
  intro r s' h
  cases r with
  | error e =>
    obtain ⟨_, _, _, _, _, _, _, _, _, _, _, _, z⟩ := h
    exact z.elim
  | ok fl =>
    cases fl with
    | ret u =>
      obtain ⟨v, H', h1, h2, un, hok', rv, q⟩ := h
      have q' : v = .bl true := q
      subst q'
      have eu : u = Value.bool true := rv
      subst eu
      refine ⟨rfl, OldK.of_keep fun b u e => ?_, h1, h2⟩
      rcases hO b with z | ⟨ob, xs, z⟩
      · exact un.keep b u e z (fun y => nomatch y) (fun y => nomatch y)
      · obtain ⟨e1, _⟩ := hok b _ z
        obtain ⟨e2, _⟩ := hok' b _ (un.frzs b ob _ z)
        rw [e] at e1
        cases e1
        exact e2
    | next => exact h.elim
    | brk => exact h.elim
    | cont => exact h.elim
theorem law_end (KX : K.In s₁.heap) (hns : s₁.heap.Ns mainGlobals mg) (hb : s₁.heap.Ns builtinsNs mb) (hbb : ∀ x : Str, x ≠ "__name__" → mb x = bootBuiltins x) (hlim : s₁.heap.NoLimit) (hg : s₁.gens = #[])
    (ha : s₁.heap.get? a = some { cls := .type "list", data := .seq vs.toArray }) (hi : IntsAre vs ns) (hl : ns.length ≤ 63) (hr : Room k callerA) (G : ∀ base : Heap, K.In base → base.Ns mainGlobals mg → FnG P w K mg base k fa fd [x] (toSp K 1 sp_law))
    (hbind : ∀ (s : Shared) (u : Value), BindsTo s fd ⟨[u], []⟩ [(x, u)]) : codeAny (model P w) callerA (.call (.ref fa) ⟨[.ref a], []⟩) (GoodEnd s₁) s₁ := by
  have rv := vals_ints hi
  have hz : ns.length ≤ sizeLine := Nat.le_trans hl (by decide)
  cases hk : K.lookup a with
  | some o =>
    have e := KX a o hk
    rw [ha] at e
    cases e
    exact law_from (fun _ => none) KX hns hb hbb hlim hg ha hl hr G hbind (fun _ => .inl rfl) (.inr ⟨_, vs.toArray, _, hk, rfl, rfl, rfl, by rw [List.size_toArray, ← hi.length] at *; simpa using hz, by simpa using rv⟩) (fun _ _ z => nomatch z) (fun _ z => absurd rfl z) (fun z => absurd rfl z)
  | none =>
    refine law_from (trackS a { cls := .type "list", data := .seq vs.toArray } (ns.map V.int)) KX hns hb hbb hlim hg ha hl hr G hbind (fun b => ?_) (.inl (.inr ⟨_, trackS_at⟩)) (fun b u z => ?_) (fun b z => ?_) (fun _ => hk)
    · by_cases y : b = a
      · exact .inr ⟨_, _, by rw [y]; exact trackS_at⟩
      · exact .inl (trackS_ne y)
    · by_cases y : b = a
      · subst y
        rw [trackS_at] at z
        cases z
        exact ⟨ha, by rw [List.length_map]; exact hz, vs, _, rv, ha⟩
      · rw [trackS_ne y] at z
        cases z
    · by_cases y : b = a
      · exact y
      · exact absurd (trackS_ne y) z
end
theorem walk_g {l : PySem.W.OpenLaw} {k : Nat} {q : Program} {loose : List Str} {XP : (Str → Option Value) → Heap → Prop} {YP : World → Heap → Prop} {d : DefRec} {K : Params → PySem.W.Frag} {x : Str} (hn : l.most = some 63) (hdf : d.params.defaults = []) (hr : Room k callerA)
    (hY : ∀ (w : World) (h : Heap), YP w h → (K w.params).In h)
    (G : ∀ (w : World) (mg : Str → Option Value) (fa : Addr) (h : Heap), (K w.params).In h → h.Ns mainGlobals mg → mg d.name = some (.ref fa) →
      ∃ fd : FuncData, (∀ (s : Shared) (u : Value), BindsTo s fd ⟨[u], []⟩ [(x, u)]) ∧ ∀ base : Heap, (K w.params).In base → base.Ns mainGlobals mg → FnG l.prog w (K w.params) mg base k fa fd [x] (toSp (K w.params) 1 sp_law)) :
    PySem.W.WalkO q loose XP YP l.row.toRowW d [] (fun f vs => PySem.call f vs) := by
  refine Att.attach_call hn hdf fun w s₀ s₁ mg mb fa o pm cd doc a vs ns G0 Y ho hd hcd hmg hobj hints hlen hg => ?_
  obtain ⟨fd, hbd, hF⟩ := G w mg fa _ (hY w _ Y) G0.T.g hmg
  exact law_end (hY w _ Y) G0.T.g G0.T.b G0.T.builtins G0.T.nolimit hg hobj hints hlen hr hF hbd
end Px
set_option Elab.async false
set_option linter.all false
set_option maxRecDepth 100000
namespace Px
open PySem PySem.Spec PyProof.Rows L2
theorem ar1_len {ds : List D} {f : D → Prop} (h : ar1 ds f) : ds.length = 1 := by obtain ⟨_, rfl, _⟩ := ar1_of h; rfl
theorem ar2_len {ds : List D} {f : D → D → Prop} (h : ar2 ds f) : ds.length = 2 := by obtain ⟨_, _, rfl, _⟩ := ar2_of h; rfl
theorem ar3_len {ds : List D} {f : D → D → D → Prop} (h : ar3 ds f) : ds.length = 3 := by obtain ⟨_, _, _, rfl, _⟩ := ar3_of h; rfl
theorem ar4_len {ds : List D} {f : D → D → D → D → Prop} (h : ar4 ds f) : ds.length = 4 := by obtain ⟨_, _, _, _, rfl, _⟩ := ar4_of h; rfl
structure DefT (K : PySem.W.Frag) (mg : Str → Option Value) (x : Str) (stm : Stmt) (ps : List Str) (a : Addr) (fd : FuncData) : Prop where
  f : L2.Fun K x x stm a fd
  b : Binds K fd ps []
  g : mg x = some (.ref a)
theorem dg0 {X : Cx} {k : Nat} {x : Str} {p p2 p3 : Pos} {j : Nat} (hr : Room k X.A) (s : Str) (hN : X.N[0]? = some x := by rfl) (hv : Vis X.env.scope x := by first | exact Or.inl rfl | exact Or.inr (Or.inl rfl) | exact Or.inr (Or.inr rfl)) (hd : (x == ("__debug__" : Str)) = false := by decide)
    (hcd : (x == ("__classdict__" : Str)) = false := by decide) : PE X (.Subscript (.Name x p) (.Constant (.str s) j p2) p3) (tDGet (tVar 0) (tC (.str s))) := pe_dget (hu_of hr) (pv 0 hN hv hd hcd) pe_str (by intro _ _; rfl)
theorem de_gintE {X : Cx} {W : WX} {pos : Pos} {x : Str} {i : Int} (hg : Gl X x) (hm : ∃ t, X.mg x = some (.int i t)) (hd : (x == ("__debug__" : Str)) = false := by decide) : DE X W (.Name x pos) (dC (.int i)) := hm.elim fun _ h => de_gint hg h hd
theorem de_gstrE {X : Cx} {W : WX} {pos : Pos} {x y : Str} (hg : Gl X x) (hm : ∃ t, X.mg x = some (.str y t)) (hd : (x == ("__debug__" : Str)) = false := by decide) : DE X W (.Name x pos) (dC (.str y)) := hm.elim fun _ h => de_gstr hg h hd
theorem updM_same {M : Mm} {a : Addr} {mo : Mo} : updM M a mo a = some mo := if_pos rfl
theorem updM_le {M : Mm} {a : Addr} {mo : Mo} (h : M a = none) : MLe M (updM M a mo) := fun b m e => by
  show (if b = a then some mo else M b) = some m
  rw [if_neg (fun z => by rw [z, h] at e; exact nomatch e)]
  exact e
def rd_begin : PTS := (dSeq (dSetO 1 (dComp [2] (iL (dVar 0)) (gNm 2) (dTst (dOp fGe (dB1 fAbs (dVar 2)) (dOp fPow (dC (.int 10)) (dC (.int 18))))) (dB1 fAbs (dVar 2)))) dRetDraw)
theorem comp_begin {w : List Nat} {ρ : Rho} {M : Mm} {q : List D → Mm → Prop} (hρ : ∃ x y z, ρ = [x, y, z]) : ∀ (ns : List Int) (acc : List Int), acc.length + ns.length ≤ 63 → (∀ l : List Int, l.length ≤ 63 → q (l.map .int) M) →
    compR (gNm 2) (dTst (dOp fGe (dB1 fAbs (dVar 2)) (dOp fPow (dC (.int 10)) (dC (.int 18))))) (dB1 fAbs (dVar 2)) ρ (ns.map .int) (acc.map .int) M q
  | [], acc, h, k => k acc (by simpa using h)
  | n :: ns, acc, h, k => by
    obtain ⟨x, y, z, rfl⟩ := hρ
    have hl : acc.length + ns.length + 1 ≤ 63 := by
      have e : acc.length + (ns.length + 1) ≤ 63 := h
      omega
    refine ⟨⟨by decide, by decide, by decide⟩, ?_⟩
    show if decide ((10 : Int) ^ (18 : Int).toNat ≤ if n < 0 then -n else n) = true then _ else _
    by_cases c : (10 : Int) ^ (18 : Int).toNat ≤ if n < 0 then -n else n
    · refine itT (decide_eq_true c) ⟨?_, ?_⟩
      · rw [List.length_map]; omega
      · have e := comp_begin (w := w) (ρ := [x, y, z]) (M := M) (q := q) ⟨x, y, z, rfl⟩ ns (acc ++ [if n < 0 then -n else n]) (by rw [List.length_append, List.length_singleton]; omega) k
        rw [List.map_append] at e
        exact e
    · exact itF (decide_eq_false c) (comp_begin (w := w) ⟨x, y, z, rfl⟩ ns acc (by omega) k)
theorem sh_begin : Shows sp_begin 3 rd_begin := by
  intro ds M q e h
  obtain ⟨d, rfl, h⟩ := ar1_of h
  obtain ⟨ns, rfl, hn, hq⟩ : ∃ ns, d = .scr ns ∧ ns.length ≤ 63 ∧ ∀ a, M a = none → q (.raw (.ref a)) (updM M a .draw) := by
    cases d with
    | scr ns => exact ⟨ns, rfl, h⟩
    | _ => exact (show False from h).elim
  refine ⟨rfl, comp_begin (w := []) ⟨_, _, _, rfl⟩ ns [] (by simpa using hn) fun l hl => ?_⟩
  exact ⟨l, ns, rfl, rfl, hl, hn, fun a ha => ⟨_, MLe.refl _, hq a ha⟩⟩
def sp_pick : PSp := fun ds M q _ => ar2 ds fun d l => asL l fun l => asDraw d M ((0 < l.length ∧ l.length ≤ 100000) ∧ ∀ x ∈ l, q x M)
theorem log_small {n : Int} (h0 : 0 ≤ n) (h : n ≤ 2 ^ 4000) : n.natAbs.log2 < 9000 := by
  have e : n.natAbs ≤ 2 ^ 4000 := by omega
  exact PySem.Flt.log2_lt_of (by decide) (Nat.lt_of_le_of_lt e (Nat.pow_lt_pow_right (by decide) (by decide)))
end Px
set_option Elab.async false
set_option linter.all false
set_option maxRecDepth 100000
namespace Px
open PySem PySem.Spec PyProof.Rows L2
def dNever : PTE := fun _ _ _ _ => False
def dNeverS : PTS := fun _ _ _ _ => False
section
variable {X : Cx} {W : WX} {e : Expr} {st1 : Stmt}
end
def fEqS : F2
  | .str a, .str b, k => k (.bl (decide (a = b)))
  | _, _, _ => False
def fNeS : F2
  | .str a, .str b, k => k (.bl (!decide (a = b)))
  | _, _, _ => False
section
variable {X : Cx} {W : WX} {K : PySem.W.Frag} {a b : Expr} {pa pb : PTE} {pos : Pos}
theorem opf_neS : OpF K rNe fNeS := by
  intro g σ H ρ M F O x y v u k Q A rx ry h c
  unfold fNeS at h
  split at h
  · rename_i a b
    rw [rx.str, ry.str]
    refine ⟨rfl, c (.bl (!decide (a = b))) _ H F O A (Same.refl F) ?_ h⟩
    show Rp K F (.bl (!decide (a = b))) (.bl (!decide (V.str a = V.str b)))
    by_cases z : a = b
    · subst z; simp; rfl
    · rw [decide_eq_false z, decide_eq_false (fun y => z (V.str.inj y))]; rfl
  · exact h.elim
theorem dt_neS (ha : DO X W a pa) (hb : DO X W b pb) : DT X W (.Compare a [.NotEq] [b] pos) (dTst (dOp fNeS pa pb)) := dt_cmp op_ne opf_neS ha hb (nomark _)
end
def showOk (d : PyData) : Prop := d.showable = true ∧ d.shown.length ≤ 16777216
def rRepr (K : PySem.W.Frag) : List V → Hp → VK → Prop := fun xs H Q => ∃ x d, xs = [x] ∧ Dp K H x d ∧ showOk d ∧ d.depth + 1 ≤ 64 ∧ d.hasDict = false ∧ Q (.str d.shown) H
section
variable {X : Cx} {W : WX} {K : PySem.W.Frag} {a : Expr} {pa : PTE} {p pos : Pos}
theorem call_reprD (hG : X.A.guards = some []) (hu : X.A.units + 64 < cLine) : CallR X (.builtin "repr") (rRepr X.K) := by
  intro pins s σ H xs us Q I r h
  obtain ⟨x, d, rfl, hd, ⟨h1, h2⟩, h3, h4, q⟩ := h
  obtain ⟨u, rfl, ru⟩ := L2.Vals.one r
  obtain ⟨as, rd⟩ := Dp.reads I d x u hd ru
  have hz : d.shown.length ≤ sizeLine := h2
  have fin : ∀ (a : Addr), u = .ref a → wpAny (model X.prog X.w) X.A (call (.builtin "repr") [u]) (EP X pins σ Q) X.xe s := fun a eu => by
    subst eu
    exact repr_of_reads' rd h1 (PyData.noDict_hsm h4) hG (by omega) (fun _ _ e => e) (fun h' t tk hk => ⟨.str d.shown, H, I.kept (t' := tk) hk, ⟨t, rfl⟩, q⟩) hz
  cases hd with
  | non =>
    cases ru
    exact PySem.P.repr_of_none ⟨.str _, H, I.tok _, ⟨_, rfl⟩, q⟩
  | bl b =>
    cases ru
    refine PySem.P.repr_of_bool ⟨.str (PyData.shown (.bool b)), H, I.tok _, ⟨s.toks, ?_⟩, q⟩
    simp only [PyData.shown]
  | int i =>
    obtain ⟨t, rfl⟩ := ru
    exact PySem.P.repr_of_int (by simpa [PyData.showable] using h1) ⟨.str (PyData.shown (.int i)), H, I.tok _, ⟨s.toks, by simp only [PyData.shown]⟩, q⟩
  | str x =>
    obtain ⟨t, rfl⟩ := ru
    exact PySem.P.repr_of_str ⟨.str (PyData.shown (.str x)), H, I.tok _, ⟨s.toks, by simp only [PyData.shown]⟩, q⟩ (by simpa [PyData.shown] using hz)
  | lst h _ => exact fin _ ru
  | tup h _ => exact fin _ ru
def fRepr : F1 := fun x k => okD 50 x = true ∧ showOk (toPy x) ∧ k (.str (toPy x).shown)
theorem bf_repr : BF1 K (rRepr K) fRepr := by
  intro g σ H ρ M F O x v k Q A rx h c
  obtain ⟨h1, h2, hk⟩ := h
  have px := okP_of _ _ h1
  obtain ⟨y1, y2⟩ := py_ok 50 x px
  exact ⟨v, _, rfl, vw_dp A px rx, h2, by omega, PyData.hasDict_of_canLay _ y1, c (.str (toPy x).shown) _ H F O A (Same.refl F) rfl hk⟩
theorem de_repr (hG : X.A.guards = some []) (hu : X.A.units + 64 < cLine) (hg : Gl X "repr") (hm : X.mg "repr" = none) (ha : DO X W a pa) (he : starEach [a] X.env = (false, eval a X.env) :: starEach [] X.env := by rfl) (hpl : (backTo pos (starEach [] X.env)).any (·.1) = false := by rfl) :
    DE X W (.Call (.Name "repr" p) [a] [] pos) (dB1 fRepr pa) := de_b1 (call_reprD hG hu) bf_repr hg hm (by decide +kernel) ha (by decide) (by decide) he hpl
end
def appR (ρ : Rho) (i : Nat) (d : D) (k : Rho → Prop) : Prop := match gt ρ i with | some (.own l) => l.length < 1000000 ∧ k (st ρ i (.own (l ++ [d]))) | _ => False
theorem appR_of {ρ : Rho} {i : Nat} {d : D} {k : Rho → Prop} (h : appR ρ i d k) : ∃ l, gt ρ i = some (.own l) ∧ l.length < 1000000 ∧ k (st ρ i (.own (l ++ [d]))) := by
  unfold appR at h
  split at h
  · exact ⟨_, by assumption, h⟩
  · exact h.elim
def isOwn (ρ : Rho) (i : Nat) : Prop := match gt ρ i with | some (.own _) => True | _ => False
theorem isOwn_of {ρ : Rho} {i : Nat} (h : isOwn ρ i) : ∃ l, gt ρ i = some (.own l) := by
  unfold isOwn at h
  split at h
  · exact ⟨_, by assumption⟩
  · exact h.elim
def dApp (i : Nat) (pe : PTE) : PTS := fun w P ρ M => isOwn ρ i ∧ pe w ρ M fun d M' => appR ρ i d fun ρ' => P.nx ρ' M'
section
variable {X : Cx} {W : WX} {e : Expr} {pe : PTE} {pos p1 p2 p3 : Pos}
theorem ds_app (i : Nat) {x : Str} (he : DE X W e pe) (hN : X.N[i]? = some x := by rfl) (hv : Vis X.env.scope x := by first | exact Or.inl rfl | exact Or.inr (Or.inl rfl) | exact Or.inr (Or.inr rfl)) (hd : (x == ("__debug__" : Str)) = false := by decide)
    (hcd : (x == ("__classdict__" : Str)) = false := by decide) (hs : starEach [e] X.env = (false, eval e X.env) :: starEach [] X.env := by rfl)
    (hbase : attributeBase (.Name x p1) "append" X.env (eval (.Name x p1) X.env) = eval (.Name x p1) X.env := by rfl)
    (hfew : ((backTo p3 (starEach [e] X.env)).all (fun x => !x.1) && (backToKw p3 (keywordEach [] X.env)).all (fun x => x.1.isSome)
      && decide ([e].length + ([] : List Keyword).length + (if ([] : List Keyword).isEmpty then 0 else 1) < 30)) = true := by rfl)
    (hline : (p2.endLine == p3.line) = true := by rfl) (hplain : (backTo p3 (starEach [] X.env)).any (·.1) = false := by rfl) :
    DS X W (.Expr (.Call (.Attribute (.Name x p1) "append" p2) [e] [] p3) pos) (dApp i pe) :=
  ps_imp (ps_expr (pe_bm PySem.F.plainAttrs_list PySem.F.slot_list_append PySem.F.type_list_append mt_append (pv i hN hv hd hcd) (pa_cons he pa_nil hs) hbase hfew hline hs hplain)) fun D σ H ⟨g, ρ, M, F, O, P, w, A, ⟨h0, h⟩, hw, k1, _⟩ => by
    obtain ⟨l0, e0⟩ := isOwn_of h0
    obtain ⟨v, hv', l, xs, rfl, hl, rl, hO⟩ := A.sl i _ e0
    refine ⟨.ref l, hv', .inl ⟨rfl, xs, .inl (.inl hl)⟩, g, ρ, M, F, O, _, w, A, h, hw, fun u H1 F1 O1 M1 d A1 s1 r1 q1 => ?_⟩
    obtain ⟨l1, e1, hz, q2⟩ := appR_of q1
    obtain ⟨v2, hv2, l2, ys, ev, hl2, rl2, hO2⟩ := A1.sl i _ e1
    rw [hv'] at hv2
    cases hv2
    cases ev
    refine ⟨l, ys, u, rfl, rfl, hl2, by rw [← rl2.len]; exact line_lt hz, ?_⟩
    exact k1 _ _ _ _ F1 O1 (A1.chg (xs := ys) e1 hv' hO2 (rl2.app (show RpL X.K F1 [d] [u] from ⟨u, [], rfl, r1, rfl⟩))) s1 q2
end
end Px
set_option Elab.async false
set_option linter.all false
set_option maxRecDepth 100000
namespace PySem
open Sem (wp)
set_option maxHeartbeats 1000000 in
theorem px_meets_enum1 {v : Value} {o : Obj} {H : Heap → Prop} (B : Begins v o H) :
    Meets (Builtin.«enumerate.__new__» ⟨[.type "enumerate", v], []⟩) (fun _ R s => H s.heap ∧
      R (.ok (.ret (.ref (s.heap.push o).objs.size))) { s with heap := (s.heap.push o).push { cls := .type "enumerate", data := .fields #[.none, .bool false, .ref s.heap.objs.size, rawInt 0, .none, .none] } }) :=
  .of_wp fun prog w A R s h => by
    obtain ⟨hp, g, d, tk, os⟩ := s; obtain ⟨h1, h⟩ := h
    have hsub := sub_enumerate
    have q1 : ∀ {A' : Around} {E : Value → Shared → Prop} {Q : Value → Shared → Prop}, Q (.ref hp.objs.size) ⟨hp.push o, g, d, tk, os⟩ → wpAny (model prog w) A' (pyIter v) Q E ⟨hp, g, d, tk, os⟩ :=
      fun q => B.iter prog w _ _ ⟨hp, g, d, tk, os⟩ _ h1 q
    wp_walk using q1
    refine wpAny_stack_any fun st => wpAny_pure ?_
    split
    · rename_i c _ _ _ _ _
      cases (c == Value.type "enumerate")
      · wp_walk using q1
        exact ⟨_, rfl, h⟩
      · wp_walk using q1
        exact ⟨_, rfl, h⟩
    · wp_walk using q1
      exact ⟨_, rfl, h⟩
section
variable {prog : Program} {w : World} {A : Around} {E : Value → Shared → Prop} {s : Shared}
theorem px_enum1 {v : Value} {o : Obj} {H : Heap → Prop} {Q : Value → Shared → Prop} (B : Begins v o H) (h1 : H s.heap)
    (h : ∀ h', IsEnum h' (s.heap.objs.size + 1) s.heap.objs.size 0 .none → h'.get? s.heap.objs.size = some o → h'.objs.size = s.heap.objs.size + 2 →
      (∀ b o, s.heap.get? b = some o → h'.get? b = some o) → Q (.ref (s.heap.objs.size + 1)) { s with heap := h' }) :
    wpAny (model prog w) A (call (.type "enumerate") [v]) Q E s := by
  refine callType_new F.called_enumerate (by decide) (F.typeCall_enumerate_1 _) (F.newCall_enumerate_1 _) (fun obj => F.args_object_init_2 obj _) F.entry_enumerate_new
    (px_meets_enum1 B) ⟨h1, ?_⟩
  have hz : (s.heap.push o).objs.size = s.heap.objs.size + 1 := Heap.size_push ..
  show _ ∧ _
  rw [hz]
  have he : IsEnum ((s.heap.push o).push { cls := .type "enumerate", data := .fields #[.none, .bool false, .ref s.heap.objs.size, rawInt 0, .none, .none] }) (s.heap.objs.size + 1) s.heap.objs.size 0 .none := by
    have := Heap.get?_push_size (s.heap.push o) (o := { cls := .type "enumerate", data := .fields #[.none, .bool false, .ref s.heap.objs.size, rawInt 0, .none, .none] }) rfl
    rw [hz] at this; exact this
  refine ⟨⟨_, he, rfl⟩, h _ he (Heap.get?_push_of_some _ (Heap.get?_push_size _ B.free)) (by rw [Heap.size_push, hz]) fun b o x => Heap.get?_push_of_some _ (Heap.get?_push_of_some _ x)⟩
theorem px_enum_endT {e it t : Addr} {i : Nat} {k : Int} {items : Array Value} {old : Value} {Q : Option Value → Shared → Prop} (hh : A.handled = none)
    (he : IsEnum s.heap e it k old) (hit : s.heap.IsTupleIter it t i) (ht : s.heap.IsTuple t items) (hx : items[i]? = none)
    (hQ : ∀ h', Heap.ExtBut it s.heap h' → Q none { s with heap := h' }) : wpAny (model prog w) A (pyNext (.ref e)) Q E s := by
  have hT : s.TypeIs (.ref e) "enumerate" := ⟨_, he, rfl⟩
  unfold pyNext
  refine wpAny_bind (wpAny_attempt (wpAny_callSpecial?_slot (name := Str.ofString "__next__") hT F.slot_enumerate_next
    (wpAny_call_entry F.slot_enumerate_next hT F.entry_enumerate_next ?_ (F.args_enumerate_next_1 _))))
  show wpAny _ _ (field (.ref e) 2 >>= _) _ _ _
  refine wpAny_bind (wpAny_field he rfl (x := .ref it) rfl ?_)
  refine wpAny_bind (wpAny_nextOf_tuple_end (A := A.in1) (show A.in1.handled = none from hh) hit ht hx fun h' x he' hx' => ?_)
  obtain ⟨o, ho, hc⟩ := hx'
  refine wpAny_bind (wpAny_isInstance (T := "StopIteration") (b := true) ⟨o, ho, hc⟩ isSubtype_stop ?_)
  exact wpAny_pure (hQ _ he')
end
end PySem
namespace Px
open PySem PySem.Spec PyProof.Rows L2
def Iteu (K : PySem.W.Frag) (a : Addr) : It :=
  ⟨fun i H => ∃ (xs : List V) (x : V), SqT K H a xs ∧ xs[i]? = some x, fun i H v H' => ∃ T x, v = .ref T ∧ H T = none ∧ H' = upd H T (.tup [.int (i : Nat), x]) ∧ ∀ xs, SqT K H a xs → xs[i]? = some x, fun i H => ∃ xs : List V, SqT K H a xs ∧ xs.length ≤ i⟩
theorem turn_enumT {P : Program} {w : World} {K : PySem.W.Frag} {elts : List Expr} {kk : Nat} {tpos : Pos} (a e it : Addr) (hna : a ≠ it) :
    Turn P w K (.Tuple elts kk tpos) (Iteu K a) [e, it] e (fun i h => (∃ old, IsEnum h e it ((i : Nat) : Int) old) ∧ h.IsTupleIter it a i ∧ e ≠ it ∧ e ≠ a) where
  mem := by simp
  obj := fun i h st b hb => by
    obtain ⟨⟨old, he⟩, ⟨o, ho, hc, hd⟩, _⟩ := st
    have e' : b = e ∨ b = it := by simpa using hb
    rcases e' with z | z
    · rw [z]; exact ⟨_, he, fun v q => nomatch q⟩
    · rw [z]; exact ⟨o, ho, fun v q => by rw [hd] at q; cases q⟩
  keep := fun i h h' st k => let ⟨⟨old, he⟩, hi, hne⟩ := st; ⟨⟨old, k e (by simp) _ he⟩, hi.at fun o q => k it (by simp) o q, hne⟩
  item := by
    intro X hP hw hK hc i pins s σ H E I hf st hg
    subst hP hw hK
    obtain ⟨⟨old, he⟩, hit, hne, hea⟩ := st
    obtain ⟨xs, x, hq, hx⟩ := hg
    obtain ⟨its, rv, p, hz⟩ := I.tuple hq
    obtain ⟨u, hu, ru⟩ := rv.get hx
    have hel : e < s.heap.objs.size := Heap.lt_size he
    have hil : it < s.heap.objs.size := by obtain ⟨_, q, _⟩ := hit; exact Heap.lt_size q
    have pt : s.heap.IsTuple a its.toArray := p
    have hlt : i < its.toArray.size := by
      have := (List.getElem?_eq_some_iff.mp hu).1
      simpa using this
    refine wpAny_pyNext_enum_itemD (Draws.tuple (A := X.A.in1) (show X.A.in1.handled = none from I.ok.hd hc) it a hna its.toArray) he ⟨hit, pt⟩ hlt hne (by simp [hne, hea]) fun y h' tk hy ho hst hT hsz hk => ?_
    have hy' : y = u := by
      have q : its.toArray[i]? = some y := hy
      have q2 : its.toArray[i]? = some u := by simpa using hu
      rw [q2] at q; cases q; rfl
    subst hy'
    refine ⟨_, rfl, wpAny_letOwnedTupleGo_enum (s := { s with heap := h', toks := tk + 1 }) ho fun h'' he' sb => ?_⟩
    have hT2 : h''.get? s.heap.objs.size = some { cls := .type "tuple", data := .seq #[.int i tk, y] } := (sb.2 _ (Nat.ne_of_gt hel)).trans hT
    have new : ObjOk X.prog X.w (upd H s.heap.objs.size (.tup [.int (i : Nat), x])) h'' s.heap.objs.size (.tup [.int (i : Nat), x]) :=
      ⟨by show 2 ≤ sizeLine; decide, [.int i tk, y], .cons ⟨_, rfl⟩ (.cons ru .nil), ⟨_, hT2, rfl, _, rfl⟩⟩
    have I1 : Inv X pins σ (upd H s.heap.objs.size (.tup [.int (i : Nat), x])) { s with heap := h'', toks := tk + 1 } :=
      I.turnedNew (ch := [e, it]) (fun b ob hb q => (sb.2 b (fun z => hb (by simp [z]))).trans (hk b ob (fun z => hb (by simp [z])) (fun z => hb (by simp [z])) q)) hf (Nat.le_refl _) new
    refine ⟨.ref s.heap.objs.size, _, I1, rfl, ⟨_, x, rfl, I.hok.fresh (Nat.le_refl _), rfl, fun ys hy => by rw [I.tuple_inj hy hq]; exact hx⟩, ⟨⟨y, ?_⟩, hst.1.at fun o q => (sb.2 it (Ne.symm hne)).trans q, hne, hea⟩, fun b hb => ?_⟩
    · have e1 : ((i + 1 : Nat) : Int) = (i : Int) + 1 := by omega
      rw [e1]; exact he'
    · have hb' : b < s.heap.objs.size := by
        have e' : b = e ∨ b = it := by simpa using hb
        rcases e' with z | z
        · rw [z]; exact hel
        · rw [z]; exact hil
      rw [upd_ne (Nat.ne_of_lt hb')]
      exact (hf b hb).1
  done := by
    intro X hP hw hK hc i pins s σ H E I hf st hg
    subst hP hw hK
    obtain ⟨⟨old, he⟩, hit, hne, hea⟩ := st
    obtain ⟨xs, hq, hx⟩ := hg
    obtain ⟨its, rv, p, hz⟩ := I.tuple hq
    obtain ⟨f0, f1, f2, f3, f4, f5⟩ := hf it (by simp)
    have hl := rv.length
    have pt : s.heap.IsTuple a its.toArray := p
    exact px_enum_endT (I.ok.hd hc) he hit pt (by simp; omega) fun h' eb => ⟨rfl, I.turned (t' := s.toks) (fun b o hb q => eb b o hb q) f0 f1 f3 f4 f5⟩
  self := fun A i s Q E st h => let ⟨⟨_, he⟩, _⟩ := st; wpAny_pyIter_enum he h
section
variable {X : Cx} {W : WX} {tg e a b : Expr} {pe pa pb : PTE} {pl : PTA} {pos p tpos : Pos} {elts : List Expr} {kk : Nat}
def iAny (K : PySem.W.Frag) (tl : TE) : TI := fun σ H R => tl σ H fun x H1 => ∃ a, x = .ref a ∧ (((∃ xs, SqL K H1 a xs) ∧ R (Itl K a) H1) ∨ ((∃ xs, SqT K H1 a xs) ∧ R (Itt K a) H1))
theorem pi_any {tl : TE} (hl : PE X e tl) : PI X tg e (iAny X.K tl) := by
  refine ⟨fun pins s σ H R I h => ?_⟩
  refine thn (hl.run pins s σ H _ I h) fun v s1 ⟨x, H1, I1, r1, q1⟩ => ?_
  obtain ⟨a, e, (⟨⟨xs, hq⟩, q⟩ | ⟨⟨xs, hq⟩, q⟩)⟩ := q1
  · subst e
    cases r1
    obtain ⟨its, rv, p, hz⟩ := I1.list hq
    refine wpAny_pyIter_list p.isList ?_
    refine ⟨s1.heap.objs.size, [s1.heap.objs.size], _, _, H1, rfl, I1.kept (t' := s1.toks) fun b o e => Heap.get?_push_of_some _ e, turn_list a _, ⟨_, Heap.get?_push_size _ rfl, rfl, rfl⟩, fun b hb => ?_, q⟩
    have e : b = s1.heap.objs.size := by simpa using hb
    subst e
    exact I1.fpOk (Nat.le_refl _) (I1.hok.fresh (Nat.le_refl _))
  · subst e
    cases r1
    obtain ⟨its, rv, p, hz⟩ := I1.tuple hq
    refine wpAny_pyIter_tuple (show s1.heap.IsTuple a its.toArray from p) ?_
    refine ⟨s1.heap.objs.size, [s1.heap.objs.size], _, _, H1, rfl, I1.kept (t' := s1.toks) fun b o e => Heap.get?_push_of_some _ e, turn_tuple a _, ⟨_, Heap.get?_push_size _ rfl, rfl, rfl⟩, fun b hb => ?_, q⟩
    have e : b = s1.heap.objs.size := by simpa using hb
    subst e
    exact I1.fpOk (Nat.le_refl _) (I1.hok.fresh (Nat.le_refl _))
def iEnumA (K : PySem.W.Frag) (ta : TA) : TI := fun σ H R => ta σ H fun vs H1 => ∃ a xs, vs = [.ref a] ∧ ((SqL K H1 a xs ∧ R (Ite K a) H1) ∨ (SqT K H1 a xs ∧ R (Iteu K a) H1))
theorem pi_enumA {ta : TA} (hg : Gl X "enumerate") (hm : X.mg "enumerate" = none) (ha : PA X [e] ta) (hs : starEach [e] X.env = [(false, eval e X.env)] := by rfl) :
    PI X (.Tuple elts kk tpos) (.Call (.Name "enumerate" p) [e] [] pos) (iEnumA X.K ta) := by
  refine ⟨fun pins s σ H R I h => ?_⟩
  refine Call_ (ld_blt I hg hm boot_enumerate (PyProof.Rows.callWith_type1 (thn (ha.run pos pins s σ H _ I h) fun us s1 ⟨vs, H1, I1, r1, q1⟩ => ?_) hs rfl))
  obtain ⟨a, xs, ex, q1⟩ := q1
  subst ex
  cases r1 with
  | cons r rr =>
    cases rr
    cases r
    rcases q1 with ⟨hq, q⟩ | ⟨hq, q⟩
    · obtain ⟨its, rv, p', hz⟩ := I1.list hq
      refine call_enumerate_list p'.isList fun h' he hit hsz hk => wpAny_pyIter_enum he ?_
      have I2 : Inv X pins σ H1 { s1 with heap := h' } := I1.kept (t' := s1.toks) hk
      refine ⟨s1.heap.objs.size + 1, [s1.heap.objs.size + 1, s1.heap.objs.size], _, _, H1, rfl, I2, turn_enum a (s1.heap.objs.size + 1) s1.heap.objs.size, ⟨⟨.none, he⟩, hit, Nat.succ_ne_self _⟩, fun b hb => ?_, q⟩
      have e' : b = s1.heap.objs.size + 1 ∨ b = s1.heap.objs.size := by simpa using hb
      have hle : s1.heap.objs.size ≤ b := by
        rcases e' with z | z
        · rw [z]; exact Nat.le_add_right _ _
        · rw [z]; exact Nat.le_refl _
      exact I1.fpOk hle (I1.hok.fresh hle)
    · obtain ⟨its, rv, p', hz⟩ := I1.tuple hq
      have pt : s1.heap.IsTuple a its.toArray := p'
      have hal : a < s1.heap.objs.size := by obtain ⟨o, q, _⟩ := pt; exact Heap.lt_size q
      refine px_enum1 (begins_tuple a its.toArray) pt fun h' he hit hsz hk => wpAny_pyIter_enum he ?_
      have I2 : Inv X pins σ H1 { s1 with heap := h' } := I1.kept (t' := s1.toks) hk
      refine ⟨s1.heap.objs.size + 1, [s1.heap.objs.size + 1, s1.heap.objs.size], _, _, H1, rfl, I2, turn_enumT a (s1.heap.objs.size + 1) s1.heap.objs.size (Nat.ne_of_lt hal), ⟨⟨.none, he⟩, ⟨_, hit, rfl, rfl⟩, Nat.succ_ne_self _, Nat.ne_of_gt (Nat.lt_succ_of_lt hal)⟩, fun b hb => ?_, q⟩
      have e' : b = s1.heap.objs.size + 1 ∨ b = s1.heap.objs.size := by simpa using hb
      have hle : s1.heap.objs.size ≤ b := by
        rcases e' with z | z
        · rw [z]; exact Nat.le_add_right _ _
        · rw [z]; exact Nat.le_refl _
      exact I1.fpOk hle (I1.hok.fresh hle)
def iA (pe : PTE) : PTA := fun w ρ M q => pe w ρ M fun d M' => match d with | .lst l => q l M' | .tup l => q l M' | .scr ns => q (ns.map .int) M' | _ => False
theorem di_any (h : DE X W e pe) : DI X W tg e (iA pe) := pi_imp (pi_any h) fun σ H R ⟨g, ρ, M, F, O, q, w, A, pr, hw, k⟩ =>
  ⟨g, ρ, M, F, O, _, w, A, pr, hw, fun v H' F' O' M' d A' s r q => by
    cases d with
    | lst l =>
      obtain ⟨a, xs, e, hs, rl⟩ := r
      exact ⟨a, e, .inl ⟨⟨xs, .inl (.inl (A'.sub _ _ hs))⟩, k _ H' F' O' M' l A' s (wk_list (.inl (.inl hs)) rl) q⟩⟩
    | tup l =>
      obtain ⟨a, xs, e, hs, rl⟩ := r
      exact ⟨a, e, .inr ⟨⟨xs, same_t A'.sub hs⟩, k _ H' F' O' M' l A' s (wk_tup hs rl) q⟩⟩
    | scr ns =>
      obtain ⟨a, e, hs⟩ := r
      exact ⟨a, e, .inl ⟨⟨_, same_l A'.sub hs⟩, k _ H' F' O' M' _ A' s (wk_list hs (RpL.of_ints ns)) q⟩⟩
    | _ => exact (show False from q).elim⟩
theorem wk_enumT {K : PySem.W.Frag} {F : Hp} {a : Addr} {xs : List V} {ds : List D} (h : SqT K F a xs) (r : RpL K F ds xs) : Wk K (Iteu K a) F (enumD 0 ds) where
  go := fun g σ ρ M F' O H i A s hi => by
    rw [enumD_len] at hi
    exact ⟨xs, xs[i]'(by rw [← r.len]; exact hi), same_t (s.trans A.sub) h, List.getElem?_eq_getElem _⟩
  yl := fun g σ ρ M F' O H i x H' d A s ⟨T, y, ex, hT, eH, hx⟩ hd => by
    rw [enumD_get] at hd
    cases q : ds[i]? with
    | none => rw [q] at hd; cases hd
    | some d0 =>
      rw [q] at hd
      cases hd
      obtain ⟨z, h1, h2⟩ := r.get q
      have e2 := hx xs (same_t (s.trans A.sub) h)
      rw [h1] at e2
      have e3 : z = y := Option.some.inj e2
      subst e3 eH ex
      have sn := same_new (o := .tup [.int (i : Nat), z]) (A.f0 hT)
      exact ⟨_, A.lay hT, sn, T, _, rfl, .inl (.inl upd_same), .int (i : Nat), _, rfl, by rw [Nat.zero_add]; rfl, z, _, rfl, Rp.mono (s.trans sn) _ _ h2, rfl⟩
  sp := fun g σ ρ M F' O H A s => ⟨xs, same_t (s.trans A.sub) h, by rw [enumD_len, r.len]; exact Nat.le_refl _⟩
def iEA (pe : PTE) : PTA := fun w ρ M q => pe w ρ M fun d M' => match d with | .lst l => q (enumD 0 l) M' | .tup l => q (enumD 0 l) M' | _ => False
theorem di_enumA (hg : Gl X "enumerate") (hm : X.mg "enumerate" = none) (ha : DE X W a pa) (he : starEach [a] X.env = (false, eval a X.env) :: starEach [] X.env := by rfl) (hs : starEach [a] X.env = [(false, eval a X.env)] := by rfl) :
    DI X W (.Tuple elts kk tpos) (.Call (.Name "enumerate" p) [a] [] pos) (iEA pa) := pi_imp (pi_enumA hg hm (pa_cons ha pa_nil he) hs) fun σ H R ⟨g, ρ, M, F, O, q, w, A, pr, hw, k⟩ =>
  ⟨g, ρ, M, F, O, _, w, A, pr, hw, fun v H' F' O' M' d A' s r q => by
    cases d with
    | lst l =>
      obtain ⟨a, xs, e, hs, rl⟩ := r
      exact ⟨a, xs, by rw [e], .inl ⟨.inl (.inl (A'.sub _ _ hs)), k _ H' F' O' M' _ A' s (wk_enum (.inl (.inl hs)) rl) q⟩⟩
    | tup l =>
      obtain ⟨a, xs, e, hs, rl⟩ := r
      exact ⟨a, xs, by rw [e], .inr ⟨same_t A'.sub hs, k _ H' F' O' M' _ A' s (wk_enumT hs rl) q⟩⟩
    | _ => exact (show False from q).elim⟩
end
end Px
set_option Elab.async false
set_option linter.all false
set_option maxRecDepth 100000
namespace Px
open PySem PySem.Spec PyProof.Rows L2
section
variable {X : Cx} {W : WX} {tg e a b : Expr} {pe pa pb : PTE} {pl : PTA} {pos p tpos : Pos}
def pick {α : Type} (ix : List Nat) (l : List α) : List α := ix.filterMap fun i => l[i]?
abbrev DK (X : Cx) (W : WX) (ks : List Keyword) (p : PTA) : Prop := PK X ks (realA X.K W p)
theorem dk_nil : DK X W [] dNil := ⟨fun pos pins s σ H Q I ⟨g, ρ, M, F, O, q, w, A, p, hw, k⟩ => pk_nil.run pos pins s σ H Q I (k [] H F O M [] A (Same.refl F) rfl p)⟩
theorem dk_cons {nm : Option Str} {kpos : Pos} {kws : List Keyword} (ha : DE X W e pe) (hr : DK X W kws pl) : DK X W (⟨nm, e, kpos⟩ :: kws) (dCons pe pl) :=
  ⟨fun pos pins s σ H Q I ⟨g, ρ, M, F, O, q, w, A, p, hw, k⟩ => (pk_cons (nm := nm) (kpos := kpos) ha hr).run pos pins s σ H Q I
    ⟨g, ρ, M, F, O, _, w, A, p, hw, fun v H1 F1 O1 M1 d A1 s1 r1 q1 => ⟨g, ρ, M1, F1, O1, _, w, A1, q1, hw.mono s1, fun vs H2 F2 O2 M2 ds A2 s2 r2 q2 => k (v :: vs) H2 F2 O2 M2 (d :: ds) A2 (s1.trans s2) ⟨v, vs, rfl, Rp.mono s2 d v r1, r2⟩ q2⟩⟩⟩
theorem vals_get : ∀ {vs : List V} {us : List Value} (i : Nat), Vals vs us → (∃ v u, vs[i]? = some v ∧ us[i]? = some u ∧ RelV v u) ∨ (vs[i]? = none ∧ us[i]? = none)
  | _, _, _, .nil => .inr ⟨rfl, rfl⟩
  | _, _, 0, .cons r t => .inl ⟨_, _, rfl, rfl, r⟩
  | _, _, i + 1, .cons r t => vals_get i t
theorem vals_pick {vs : List V} {us : List Value} (h : Vals vs us) : ∀ ix : List Nat, Vals (pick ix vs) (pick ix us)
  | [] => .nil
  | i :: r => by
    rcases vals_get i h with ⟨v, u, h1, h2, h3⟩ | ⟨h1, h2⟩
    · unfold pick
      rw [List.filterMap_cons_some h1, List.filterMap_cons_some h2]
      exact .cons h3 (vals_pick h r)
    · unfold pick
      rw [List.filterMap_cons_none h1, List.filterMap_cons_none h2]
      exact vals_pick h r
theorem rpl_get {K : PySem.W.Frag} {F : Hp} : ∀ {ds : List D} {vs : List V} (i : Nat), RpL K F ds vs → (∃ d v, ds[i]? = some d ∧ vs[i]? = some v ∧ Rp K F d v) ∨ (ds[i]? = none ∧ vs[i]? = none)
  | [], vs, i, h => by
    have e : vs = [] := h
    subst e
    exact .inr ⟨rfl, rfl⟩
  | d :: ds, vs, 0, h => by
    obtain ⟨v, r, rfl, h1, h2⟩ := h
    exact .inl ⟨d, v, rfl, rfl, h1⟩
  | d :: ds, vs, i + 1, h => by
    obtain ⟨v, r, rfl, h1, h2⟩ := h
    exact rpl_get i h2
theorem rpl_pick {K : PySem.W.Frag} {F : Hp} {ds : List D} {vs : List V} (h : RpL K F ds vs) : ∀ ix : List Nat, RpL K F (pick ix ds) (pick ix vs)
  | [] => rfl
  | i :: r => by
    rcases rpl_get i h with ⟨v, u, h1, h2, h3⟩ | ⟨h1, h2⟩
    · unfold pick
      rw [List.filterMap_cons_some h1, List.filterMap_cons_some h2]
      exact ⟨u, _, rfl, h3, rpl_pick h r⟩
    · unfold pick
      rw [List.filterMap_cons_none h1, List.filterMap_cons_none h2]
      exact rpl_pick h r
def dCallK (sp : PSp) (ix : List Nat) (pl : PTA) : PTE := fun w ρ M q => pl w ρ M fun ds M1 => sp (pick ix ds) M1 q fun cls fs M2 => w cls fs ρ M2
def KwB (K : PySem.W.Frag) (fd : FuncData) (ps ks : List Str) (ix : List Nat) : Prop := ∀ (s : Shared) (ws : List Value), K.In s.heap → (pick ix ws).length = ps.length → BindsTo s fd ⟨[], ks.zip ws⟩ (ps.zip (pick ix ws))
section
variable {k n : Nat} {f : Addr} {fd : FuncData} {ps ks : List Str} {sp : PSp} {x : Str} {kws : List Keyword} {ix : List Nat}
theorem de_callK (Fg : FnG X.prog X.w X.K X.mg X.base k f fd ps (toSp X.K n sp)) (hn : ps.length = n) (hlen : ∀ ds M q e, sp ds M q e → ds.length = n) (hr : Room k X.A) (hG : X.A.guards = some []) (hg : Gl X x) (hm : X.mg x = some (.ref f))
    (hk : PySem.W.keepIn X.K (.ref f) = true) (hb : KwB X.K fd ps ks ix) (tk : Takes X W) (ha : DK X W kws pl)
    (hall : (backToKw pos (keywordEach kws X.env)).all (·.1.isSome) = true := by rfl) (hks : (backToKw pos (keywordEach kws X.env)).filterMap (·.1) = ks := by rfl) (hdb : (x == ("__debug__" : Str)) = false := by decide)
    (hpl : ((backTo pos (starEach [] X.env)).any (·.1) || (backToKw pos (keywordEach kws X.env)).any (·.1.isNone)) = false := by rfl) : DE X W (.Call (.Name x p) [] kws pos) (dCallK sp ix pl) := by
  refine ⟨fun pins s σ H Q I ⟨g, ρ, M, F, O, q, w, A, pr, hw, kk⟩ => ?_⟩
  refine wpAny_Call_Name_kw (ld_glob I hg hm ?_ hdb)
  refine PySem.W.callWith_KW0 (h₀ := X.base) I.ok.mod.kin hk hall (thn (ha.run pos pins s σ H (fun vs H1 => toSp X.K n sp (pick ix vs) H1 Q fun cls d H' => W cls d σ H') I ?_) fun us s1 hh => ?_) hpl
  · refine ⟨g, ρ, M, F, O, _, w, A, pr, hw, fun vs H1 F1 O1 M1 d1 A1 s1 r1 q1 => ?_⟩
    have e := call_reading (dd := []) (dvs := []) hn (fun _ => rfl) A1 (hw.mono s1) (rpl_pick r1 ix) (by rw [List.append_nil]; exact hlen _ _ _ _ q1) (by rw [List.append_nil]; exact q1) fun v H2 F2 O2 M2 d2 A2 s2 r2 q2 => kk v H2 F2 O2 M2 d2 A2 (s1.trans s2) r2 q2
    rw [List.append_nil] at e
    exact e
  · obtain ⟨vs, H1, I1, r, q1⟩ := hh
    refine ⟨I1.kIn, ?_⟩
    rw [hks]
    have r2 := vals_pick r ix
    have hl : (pick ix us).length = ps.length := by rw [← r2.length]; exact Fg.len _ _ _ _ q1
    refine wpAny_call (codeAny_mono (Fg.run X.A X.stack s1 H1 ⟨[], ks.zip us⟩ (pick ix us) (pick ix vs) Q _ hr hG I1.env0 (hb s1 us I1.kIn hl) r2 q1) fun r s' hq => ?_)
    cases r with
    | error e => exact tk e s' (XE.of_call I1 (fun _ _ _ h => h) hq)
    | ok fl =>
      cases fl with
      | ret u => exact I1.after hq
      | next => exact hq.elim
      | brk => exact hq.elim
      | cont => exact hq.elim
end
abbrev PTO := PWi → Rho → Mm → (Option Int → Mm → Prop) → Prop
def dNo : PTO := fun _ _ M q => q none M
def asIn (d : D) (k : Int → Prop) : Prop := match d with | .int i => k i | _ => False
def dPt (pe : PTE) : PTO := fun w ρ M q => pe w ρ M fun d M1 => asIn d fun i => q (some i) M1
def realP (K : PySem.W.Frag) (W : WX) (p : PTO) : L2.TO := fun σ H Q => ∃ g ρ M F O q w, Ab K g σ H ρ M F O ∧ p w ρ M q ∧ WOk K g F W w ∧ ∀ o H' F' O' M', Ab K g σ H' ρ M' F' O' → Same F F' → q o M' → Q o H'
abbrev DP (X : Cx) (W : WX) (e : Option Expr) (p : PTO) : Prop := PO X e (realP X.K W p)
theorem dp_no : DP X W none dNo := ⟨fun pins s σ H Q I ⟨g, ρ, M, F, O, q, w, A, p, hw, k⟩ => po_none.run pins s σ H Q I (k none H F O M A (Same.refl F) p)⟩
theorem dp_pt (h : DE X W e pe) : DP X W (some e) (dPt pe) := ⟨fun pins s σ H Q I ⟨g, ρ, M, F, O, q, w, A, p, hw, k⟩ => (po_some h).run pins s σ H Q I
  ⟨g, ρ, M, F, O, _, w, A, p, hw, fun v H1 F1 O1 M1 d A1 s1 r1 q1 => by
    cases d with
    | int i => exact ⟨i, r1, k (some i) H1 F1 O1 M1 A1 s1 q1⟩
    | _ => exact (show False from q1).elim⟩⟩
def cutD (l : List D) (lo hi : Option Int) : List D := (l.drop (HT.sIx l.length 0 lo)).take (HT.sIx l.length l.length hi - HT.sIx l.length 0 lo)
theorem rpl_drop {K : PySem.W.Frag} {F : Hp} : ∀ {ds : List D} {vs : List V} (i : Nat), RpL K F ds vs → RpL K F (ds.drop i) (vs.drop i)
  | [], vs, i, h => by
    have e : vs = [] := h
    subst e
    simp only [List.drop_nil]; rfl
  | d :: ds, vs, 0, h => h
  | d :: ds, vs, i + 1, h => by
    obtain ⟨v, r, rfl, h1, h2⟩ := h
    exact rpl_drop i h2
theorem rpl_take {K : PySem.W.Frag} {F : Hp} : ∀ {ds : List D} {vs : List V} (i : Nat), RpL K F ds vs → RpL K F (ds.take i) (vs.take i)
  | [], vs, i, h => by
    have e : vs = [] := h
    subst e
    simp only [List.take_nil]; rfl
  | d :: ds, vs, 0, h => rfl
  | d :: ds, vs, i + 1, h => by
    obtain ⟨v, r, rfl, h1, h2⟩ := h
    exact ⟨v, r.take i, rfl, h1, rpl_take i h2⟩
theorem rpl_cut {K : PySem.W.Frag} {F : Hp} {ds : List D} {vs : List V} (lo hi : Option Int) (h : RpL K F ds vs) : RpL K F (cutD ds lo hi) (cutV vs lo hi) := by
  unfold cutD cutV
  rw [h.len]
  exact rpl_take _ (rpl_drop _ h)
def slR (d : D) (lo hi : Option Int) (k : D → Prop) : Prop := match d with
  | .lst l => k (.lst (cutD l lo hi))
  | .tup l => k (.tup (cutD l lo hi))
  | _ => False
def dSl (pa : PTE) (plo phi : PTO) : PTE := fun w ρ M q => pa w ρ M fun d M1 => plo w ρ M1 fun l M2 => phi w ρ M2 fun h M3 => slR d l h fun z => q z M3
theorem de_sl {lo hi : Option Expr} {plo phi : PTO} {p2 : Pos} (ha : DO X W a pa) (hl : DP X W lo plo) (hh : DP X W hi phi) : DE X W (.Subscript a (.Slice lo hi none p2) pos) (dSl pa plo phi) :=
  pe_imp (pe_slice (sl_list.or sl_tupA) ha hl hh) fun σ H Q ⟨g, ρ, M, F, O, q, w, A, pr, hw, k⟩ =>
  ⟨g, ρ, M, F, O, _, w, A, pr, hw, fun v H1 F1 O1 M1 d A1 s1 r1 q1 => ⟨g, ρ, M1, F1, O1, _, w, A1, q1, hw.mono s1, fun l H2 F2 O2 M2 A2 s2 q2 => ⟨g, ρ, M2, F2, O2, _, w, A2, q2, hw.mono (s1.trans s2), fun h H3 F3 O3 M3 A3 s3 q3 => by
    have r3 := r1.mono (s2.trans s3)
    cases d with
    | lst ds =>
      obtain ⟨p, xs, e1, h1, rl⟩ := r3.lst A3
      refine .inl ⟨p, xs, e1, .inl (.inl h1), fun t ht => ?_⟩
      have sn := same_new (o := .lst (cutV xs l h)) (A3.f0 ht)
      exact k _ _ _ O3 M3 (.lst (cutD ds l h)) (A3.lay ht) (((s1.trans s2).trans s3).trans sn) ⟨t, _, rfl, upd_same, RpL.mono sn _ _ (rpl_cut l h rl)⟩ q3
    | tup ds =>
      obtain ⟨p, xs, e1, h1, rl⟩ := r3.tupF
      refine .inr ⟨p, xs, e1, same_t A3.sub h1, fun z => ?_, fun z t ht => ?_⟩
      · have ec : cutD ds l h = ds := by
          unfold cutD
          rw [rl.len, z.1, z.2, List.drop_zero, Nat.sub_zero]
          exact List.take_of_length_le (by rw [rl.len]; exact Nat.le_refl _)
        have q4 : q (.tup (cutD ds l h)) M3 := q3
        rw [ec] at q4
        exact k _ _ _ O3 M3 (.tup ds) A3 ((s1.trans s2).trans s3) ⟨p, xs, rfl, h1, rl⟩ q4
      · have sn := same_new (o := .tup (cutV xs l h)) (A3.f0 ht)
        exact k _ _ _ O3 M3 (.tup (cutD ds l h)) (A3.lay ht) (((s1.trans s2).trans s3).trans sn) ⟨t, _, rfl, .inl (.inl upd_same), RpL.mono sn _ _ (rpl_cut l h rl)⟩ q3
    | _ => exact (show False from q3).elim⟩⟩⟩
def fTup : F1
  | .lst l, k => k (.tup l)
  | .tup l, k => k (.tup l)
  | _, _ => False
theorem de_tupc (hg : Gl X "tuple") (hm : X.mg "tuple" = none) (ha : DO X W a pa) (he : starEach [a] X.env = (false, eval a X.env) :: starEach [] X.env := by rfl) (hpl : (backTo pos (starEach [] X.env)).any (·.1) = false := by rfl) :
    DE X W (.Call (.Name "tuple" p) [a] [] pos) (dB1 fTup pa) := de_t1 call_tuple_of (f := fTup) (fun g σ H ρ M F O x v k Q A rx h c => by
    cases x with
    | lst l =>
      obtain ⟨p, xs, e1, h1, rl⟩ := rx.lst A
      refine ⟨p, xs, by rw [e1], .inl ⟨.inl (.inl h1), fun t ht => ?_⟩⟩
      have sn := same_new (o := .tup xs) (A.f0 ht)
      exact c (.tup l) _ _ _ O (A.lay ht) sn ⟨t, _, rfl, .inl (.inl upd_same), RpL.mono sn _ _ rl⟩ h
    | tup l =>
      obtain ⟨p, xs, e1, h1, rl⟩ := rx.tupF
      exact ⟨p, xs, by rw [e1], .inr ⟨same_t A.sub h1, c (.tup l) _ H F O A (Same.refl F) ⟨p, xs, rfl, h1, rl⟩ h⟩⟩
    | _ => exact (show False from h).elim) hg hm (by decide +kernel) ha (by decide) (by decide) he hpl
def dParL3 (i j l : Nat) (pe : PTE) (c : D) : PTS := fun w P ρ M => pe w ρ M fun d M' => P.nx (st (st (st ρ i (.val d)) j (.own [])) l (.val c)) M'
def dParL2 (i j : Nat) (pe : PTE) : PTS := fun w P ρ M => pe w ρ M fun d M' => P.nx (st (st ρ i (.val d)) j (.own [])) M'
theorem ds_parL2 (i j : Nat) {x y : Str} {a : Expr} {px py pt p2 : Pos} {kt k2 pt2} (hc : X.calm = true) (hN : X.N.Nodup) (ha : DE X W a pe) (hi : X.N[i]? = some x := by rfl) (hj : X.N[j]? = some y := by rfl)
    (hij : i ≠ j := by decide) (hx : X.env.scope.names.lookup x = some .local := by rfl) (hy : X.env.scope.names.lookup y = some .local := by rfl)
    (h1 : starEach [a, .List [] p2] X.env = (false, eval a X.env) :: starEach [.List [] p2] X.env := by rfl) (h2 : starEach [.List [] p2] X.env = (false, eval (.List [] p2) X.env) :: starEach [] X.env := by rfl)
    (hw : swappedStores [.Tuple [.Name x px, .Name y py] kt pt] (.Tuple [a, .List [] p2] k2 pt2) X.env = pure (some [x, y]) := by rfl)
    (hs : swapsWithSole [.Tuple [.Name x px, .Name y py] kt pt] (.Tuple [a, .List [] p2] k2 pt2) pos.line X.env = pure false := by rfl) :
    DS X W (.Assign [.Tuple [.Name x px, .Name y py] kt pt] (.Tuple [a, .List [] p2] k2 pt2) pos) (dParL2 i j pe) :=
  ps_imp (ps_par hc hN hi hj hij hx hy (pa_cons ha (pa_cons (pe_lst pa_nil) pa_nil h2) h1) hw hs) fun D σ H ⟨g, ρ, M, F, O, P, w, A, h, hw, k1, _⟩ =>
  ⟨g, ρ, M, F, O, _, w, A, h, hw, fun v H' F' O' M' d A' s r q => ⟨by show 0 ≤ sizeLine; decide, fun t ht => ⟨v, .ref t, rfl,
    k1 _ _ _ M' F' _ (((A'.laid (o := .lst []) ht).put r).putOwn upd_same (l := []) rfl (A'.f0 ht) (A'.o0 ht) (A'.g0 ht)) s q⟩⟩⟩
end
end Px
set_option Elab.async false
set_option linter.all false
set_option maxRecDepth 100000
namespace Px
open PySem PySem.Spec PyProof.Rows L2
theorem kwb_of {K : PySem.W.Frag} {x qual : Str} {st : Stmt} {f : Addr} {fd : FuncData} {ps : List Str} (ks : List Str) (ix : List Nat) (F : L2.Fun K x qual st f fd)
    (h : ∀ (kV doc pm : Value) (an : Option Addr) (cdv ct : Value) (ws : List Value), (pick ix ws).length = ps.length → bindArgs (PySem.W.fnOf x qual (defArgs st) (defBody st) (defScope st) .none kV doc pm an cdv ct) ⟨[], ks.zip ws⟩ = pure (ps.zip (pick ix ws))) : KwB K fd ps ks ix := by
  obtain ⟨oc, od, kV, doc, pm, an, cdv, ct, osl, rfl, lk, hcd⟩ := F.ex
  exact fun s ws _ hl => .of_eq (h kV doc pm an cdv ct ws hl)
end Px
set_option Elab.async false
set_option linter.all false
set_option maxRecDepth 100000
namespace Px
open PySem PySem.Spec PyProof.Rows L2
def fShl : F2
  | .int i, .int j, k => CPow i j ∧ k (.int (i * 2 ^ j.toNat))
  | _, _, _ => False
def fShr : F2
  | .int i, .int j, k => 0 ≤ j ∧ k (.int (i / 2 ^ j.toNat))
  | _, _, _ => False
section
variable {X : Cx} {W : WX} {K : PySem.W.Frag} {a b : Expr} {pa pb : PTE} {pos : Pos}
end
def itemsD : D → Option (List Int)
  | .lst l => intsOf l
  | .tup l => intsOf l
  | _ => none
def fInI (neg : Bool) : F2 := fun x y k => match x, itemsD y with
  | .int i, some ns => k (.bl (if neg then !decide (i ∈ ns) else decide (i ∈ ns)))
  | _, _ => False
theorem inV_ints (i : Int) (ns : List Int) : inV (.int i) (ns.map V.int) = decide (i ∈ ns) := by
  unfold inV
  induction ns with
  | nil => rfl
  | cons n r ih =>
    rw [List.map_cons, List.any_cons, ih]
    have e : eqV (.int n) (.int i) = decide (i = n) := by
      show decide (n = i) = decide (i = n)
      by_cases c : n = i
      · subst c; rfl
      · rw [decide_eq_false c, decide_eq_false (fun z => c z.symm)]
    rw [e]
    by_cases c : i = n
    · subst c; simp
    · simp [c]
theorem flat_ints (ns : List Int) : (ns.map V.int).all flatV = true := by
  rw [List.all_eq_true]
  intro x hx
  obtain ⟨n, _, rfl⟩ := List.mem_map.mp hx
  rfl
theorem opf_inI {K : PySem.W.Frag} (neg : Bool) : OpF K (rIn K neg) (fInI neg) := by
  intro g σ H ρ M F O x y v u k Q A rx ry h c
  cases x with
  | int i =>
    have fin : ∀ (p : Addr) (l : List D) (xs : List V), u = .ref p → (SqL K H p xs ∨ SqT K H p xs) → RpL K F l xs → intsOf l = itemsD y → rIn K neg v u H Q := fun p l xs eu hs rl el => by
      cases e : intsOf l with
      | none =>
        rw [e] at el
        simp only [fInI, ← el] at h
      | some ns =>
        rw [e] at el
        simp only [fInI, ← el] at h
        have e1 := intsOf_eq e
        subst e1
        have ex := rl.ints
        subst ex
        refine ⟨p, ns.map V.int, eu, hs, by rw [rx.int]; rfl, flat_ints ns, ?_⟩
        rw [rx.int, inV_ints]
        exact c (.bl (if neg then !decide (i ∈ ns) else decide (i ∈ ns))) _ H F O A (Same.refl F) rfl h
    cases y with
    | lst l =>
      obtain ⟨p, xs, e1, h1, rl⟩ := ry.lst A
      exact fin p l xs e1 (.inl (.inl (.inl h1))) rl rfl
    | tup l =>
      obtain ⟨p, xs, e1, h1, rl⟩ := ry.tupF
      exact fin p l xs e1 (.inr (same_t A.sub h1)) rl rfl
    | _ => exact (show False from h).elim
  | _ => exact (show False from h).elim
section
variable {X : Cx} {W : WX} {a b : Expr} {pa pb : PTE} {pos : Pos}
theorem dt_inI (ha : DO X W a pa) (hb : DO X W b pb) (hm : behindInMarks .In b = false := by rfl) : DT X W (.Compare a [.In] [b] pos) (dTst (dOp (fInI false) pa pb)) := dt_cmp op_in_seq (opf_inI false) ha hb hm
end
end Px
set_option Elab.async false
set_option linter.all false
set_option maxRecDepth 100000
set_option maxHeartbeats 4000000
namespace Px
open PySem PySem.Spec PyProof.Rows L2
def lexL : List Int → List Int → Bool
  | [], [] => false
  | [], _ :: _ => true
  | _ :: _, [] => false
  | x :: r, y :: s => if x = y then lexL r s else decide (x < y)
theorem lexL_irr : ∀ l : List Int, lexL l l = false
  | [] => rfl
  | x :: r => by unfold lexL; rw [if_pos rfl]; exact lexL_irr r
theorem lexL_asym : ∀ {a b : List Int}, lexL a b = true → lexL b a = false
  | [], [], _ => rfl
  | [], _ :: _, _ => rfl
  | _ :: _, [], h => (nomatch h)
  | x :: r, y :: s, h => by
    unfold lexL at h ⊢
    by_cases c : x = y
    · subst c
      rw [if_pos rfl] at h ⊢
      exact lexL_asym h
    · rw [if_neg c, decide_eq_true_eq] at h
      rw [if_neg (fun z => c z.symm)]
      exact decide_eq_false (by omega)
theorem lexL_neg : ∀ {a b c : List Int}, lexL a b = false → lexL b c = false → lexL a c = false
  | _, [], [], h, _ => h
  | [], [], _ :: _, _, h2 => nomatch h2
  | _ :: _, [], _ :: _, _, h2 => nomatch h2
  | [], _ :: _, _, h1, _ => nomatch h1
  | _ :: _, _ :: _, [], _, _ => rfl
  | x :: r, y :: s, z :: t, h1, h2 => by
    unfold lexL at h1 h2 ⊢
    by_cases c1 : x = y
    · subst c1
      rw [if_pos rfl] at h1
      by_cases c2 : x = z
      · subst c2
        rw [if_pos rfl] at h2 ⊢
        exact lexL_neg h1 h2
      · rw [if_neg c2] at h2 ⊢
        exact h2
    · rw [if_neg c1, decide_eq_false_iff_not] at h1
      by_cases c2 : y = z
      · subst c2
        rw [if_neg c1]
        exact decide_eq_false h1
      · rw [if_neg c2, decide_eq_false_iff_not] at h2
        rw [if_neg (by omega)]
        exact decide_eq_false (by omega)
theorem swo_lexL (k : Value → List Int) : SrtO.Swo fun v u => lexL (k v) (k u) := ⟨fun x y h => lexL_asym h, fun x y z h1 h2 => lexL_neg h2 h1⟩
section
variable {prog : Program} {w : World} {A : Around} {s : Shared}
theorem kat_ints {b fin : Bool} {Q : Bool → Shared → Prop} : ∀ {xs ys : List Value} {ms ns : List Int} (i : Nat), IntsAre xs ms → IntsAre ys ns → fin = decide (xs.length < ys.length) → Q (lexL ms ns) s → PySem.W.KatLex prog w A b fin Q (xs.zip ys) i s
  | _, _, _, _, i, .nil, .nil, hf, q => by
    subst hf
    exact q
  | _, _, _, _, i, .nil, .cons _ _ _, hf, q => by
    subst hf
    refine PySem.W.kat_nil ?_
    rw [decide_eq_true (by simp)]
    exact q
  | _, _, _, _, i, .cons _ _ _, .nil, hf, q => by
    subst hf
    refine PySem.W.kat_nil ?_
    rw [decide_eq_false (by simp)]
    exact q
  | _, _, _, _, i, .cons x t hx, .cons y u hy, hf, q => by
    rename_i xs' ms' ys' ns'
    refine PySem.W.kat_cons (SeqAt.EqAt.int_int x t y u prog w _ _ ?_)
    refine PySem.W.kat_go (fun e1 => ?_) (fun e1 => ?_)
    · have ex : x = y := by simpa using e1
      refine PySem.W.kat_yes (kat_ints (i + 1) hx hy (by rw [hf, List.length_cons, List.length_cons]; simp) ?_)
      have q' : Q (if x = y then lexL ms' ns' else decide (x < y)) s := q
      rw [if_pos ex] at q'
      exact q'
    · have ex : ¬ x = y := by simpa using e1
      have q' : Q (if x = y then lexL ms' ns' else decide (x < y)) s := q
      rw [if_neg ex] at q'
      exact PySem.W.kat_no (TS.oneLt_ints _ q')
theorem ints_cmp {vs : List Value} {k : Value → List Int} {b : Bool} (hp : ∀ v ∈ vs, TS.TupInts s.heap v (k v)) : SrtO.Cmp prog w A s (tuples' b) (fun p => p.1 ∈ vs) (SrtO.lt2 fun v u => lexL (k v) (k u)) := by
  intro p q hm hm'
  obtain ⟨a, xs, e1, ⟨o, ho, hc, n, hd⟩, hx⟩ := hp _ hm
  obtain ⟨a', ys, e2, ⟨o', ho', hc', n', hd'⟩, hy⟩ := hp _ hm'
  show wpAny (model prog w) A (keyLt' (tuples' b) p.1 q.1) (fun r s' => s' = s ∧ r = lexL (k p.1) (k q.1)) (fun _ _ => False) s
  rw [e1, e2]
  refine PySem.W.kat_lt ho hd ho' hd' (kat_ints 0 hx hy (by simp) ⟨rfl, ?_⟩)
  rw [← e1, ← e2]
theorem ints_firsts {h : Heap} {k : Value → List Int} : ∀ vs : List Value, (∀ v ∈ vs, TS.TupInts h v (k v) ∧ k v ≠ []) → ∃ fs, PySem.W.KatTups h vs fs ∧ fs.length = vs.length ∧ ∀ f, f ∈ fs → ∃ n t, f = Value.int n t
  | [], _ => ⟨[], PySem.W.KatTups.nil, rfl, fun f hf => (nomatch hf)⟩
  | v :: vs, x => by
    obtain ⟨fs, kt, hl, hi⟩ := ints_firsts (k := k) vs fun u hu => x u (List.mem_cons_of_mem _ hu)
    obtain ⟨⟨a, xs, ev, ⟨o, ho, hc, n, hdt⟩, i⟩, hn⟩ := x v (List.mem_cons_self ..)
    obtain ⟨y, ys, e⟩ : ∃ y ys, xs.toList = y :: ys := by
      cases q : xs.toList with
      | nil =>
        rw [q] at i
        have l := i.length
        rw [List.length_nil] at l
        exact absurd (List.length_eq_zero_iff.mp l.symm) hn
      | cons y ys => exact ⟨y, ys, rfl⟩
    obtain ⟨m, t, hy⟩ := i.all y (by rw [e]; exact List.mem_cons_self ..)
    subst ev
    refine ⟨y :: fs, PySem.W.KatTups.cons ho hc hdt ?_ kt, by simp [hl], ?_⟩
    · have z := congrArg (fun l : List Value => l[0]?) e
      simpa using z
    · intro f hf
      rcases List.mem_cons.mp hf with rfl | hf
      · exact ⟨m, t, hy⟩
      · exact hi f hf
theorem ints_sortable {a : Addr} {vs : List Value} {k : Value → List Int} (h0 : 0 < vs.length) (hp : ∀ v ∈ vs, TS.TupInts s.heap v (k v) ∧ k v ≠ []) (ha : ∀ o, s.heap.get? a = some o → o.cls ≠ .type "tuple") : SrtO.SortableO prog w A s a vs fun v u => lexL (k v) (k u) := by
  intro h' keep
  have hp' : ∀ v ∈ vs, TS.TupInts h' v (k v) ∧ k v ≠ [] := fun v hm => ⟨(hp v hm).1.keeps fun b o e c => keep b o (fun z => by subst z; exact ha o e c) e, (hp v hm).2⟩
  obtain ⟨fs, h1, h2, h3⟩ := ints_firsts vs hp'
  refine ⟨tuples' true, fun Q E hq => ?_, ints_cmp fun v hm => (hp' v hm).1⟩
  refine PySem.W.kat_kind (T := .type "int") h1 (by omega) (fun f hm => ?_) (by rfl) ?_
  · obtain ⟨x, t, rfl⟩ := h3 f hm
    exact PySem.W.Looks.now
  · have e : (Value.type "int" != Value.type "tuple") = true := by first | decide +kernel | rfl | decide
    rw [e]
    exact hq
end
end Px
set_option Elab.async false
set_option linter.all false
set_option maxRecDepth 100000
set_option maxHeartbeats 4000000
namespace Px
open PySem PySem.Spec PyProof.Rows L2
theorem lexLt_lexL : ∀ a b : List Int, HT.lexLt a b = lexL a b
  | [], [] => rfl
  | [], _ :: _ => rfl
  | _ :: _, [] => rfl
  | x :: r, y :: s => by
    rw [HT.lexLt_cons, lexLt_lexL r s]
    rfl
section
variable {prog : Program} {w : World} {A : Around} {s : Shared} {E : Value → Shared → Prop}
theorem one_tups {p q : Value} {ns ms : List Int} {Q : Bool → Shared → Prop} (hp : TS.TupInts s.heap p ns) (hq : TS.TupInts s.heap q ms) (hu : A.units < cLine) (h : Q (lexL ns ms) s) : wpAny (model prog w) A (keyLt' oneType' p q) Q E s := by
  obtain ⟨l, xs, rfl, hl, hx⟩ := hp
  obtain ⟨b, ys, rfl, hb, hy⟩ := hq
  obtain ⟨⟨cls, dd, data, sl⟩, ho, hc, n, hd⟩ := id hl
  obtain ⟨⟨cls2, dd2, data2, sl2⟩, ho2, hc2, n2, hd2⟩ := id hb
  simp only at hc hd hc2 hd2
  subst hc hd hc2 hd2
  rw [keyLt'_oneType, oneLt'_eq]
  simp only [if_true]
  refine wpAny_bind (wpAny_cRoomFor_or (.inr hu) ?_)
  refine wpAny_bind (wpAny_callSpecialIfBound?_slot (T := "tuple") ⟨_, ho, rfl⟩ PySem.F.slot_tuple_lt (call_meets PySem.F.slot_tuple_lt ⟨_, ho, rfl⟩ PySem.F.entry_tuple_lt (PySem.F.args_tuple_lt_2 _ _) (HT.tuple_lt_ints l b xs ys n n2 dd dd2 sl sl2 ns ms hx hy) ⟨ho, ho2, ?_⟩))
  rw [lexLt_lexL]
  exact wpAny_truthy_bool h
end
end Px
set_option Elab.async false
set_option linter.all false
set_option maxRecDepth 100000
set_option maxHeartbeats 4000000
namespace Px
open PySem PySem.Spec PyProof.Rows L2
section
variable {M : Model} {A : Around} {E : Value → Shared → Prop} {s : Shared}
theorem firsts_any {k : Value → List Int} : ∀ (vs : List Value) {Q : List (Option Value) → Shared → Prop}, (∀ v ∈ vs, TS.TupInts s.heap v (k v)) → (∀ os : List (Option Value), os.length = vs.length → (∀ v r, vs = v :: r → k v = [] → ∃ r', os = none :: r') → Q os s) → wpAny M A (vs.mapM firstOfTuple') Q E s
  | [], Q, _, h => by
    rw [List.mapM_nil]
    exact wpAny_pure (h [] rfl fun _ _ e => (nomatch e))
  | v :: vs, Q, x, h => by
    obtain ⟨a, xs, ev, ⟨o, ho, hc, n, hd⟩, i⟩ := x v List.mem_cons_self
    rw [List.mapM_cons]
    refine wpAny_bind ?_
    rw [PySem.W.kas_first_eq, ev]
    refine wpAny_bind (PySem.W.Looks.here (show PySem.W.Looks M s.heap (typeOf (.ref a)) o.cls from (PySem.W.Looks.ld ho).andThen .now) ?_)
    rw [hc, if_neg (by first | decide | simp)]
    refine wpAny_bind (listItems_at ho hd (wpAny_pure ?_))
    refine wpAny_bind (firsts_any vs (k := k) (fun u hu => x u (List.mem_cons_of_mem _ hu)) fun os hl _ => wpAny_pure (h (xs[0]? :: os) (by simp [hl]) fun v' r e hk => ?_))
    cases e
    rw [hk] at i
    have e0 : xs.toList = [] := by
      have l := i.length
      rw [List.length_nil] at l
      exact List.length_eq_zero_iff.mp l
    have e1 : xs[0]? = none := by
      have e2 : xs.size = 0 := by simpa using congrArg List.length e0
      exact Array.getElem?_eq_none (by omega)
    exact ⟨os, by rw [e1]⟩
theorem kind_empty {vs : List Value} {k : Value → List Int} {Q : SortKind → Shared → Prop} {v0 : Value} {r0 : List Value} (ev : vs = v0 :: r0) (h0 : k v0 = []) (hp : ∀ v ∈ vs, TS.TupInts s.heap v (k v)) (h : Q oneType' s) : wpAny M A (keyKind' vs.toArray) Q E s := by
  rw [keyKind'_eq, List.mapM_toArray, map_eq_pure_bind]
  refine wpAny_bind (wpAny_bind (firsts_any vs hp fun os hl hf => wpAny_pure ?_))
  obtain ⟨r', eo⟩ := hf v0 r0 ev h0
  subst eo
  rw [if_neg (by simp), if_neg (by simp)]
  rw [oneTypeOnly'_eq, List.mapM_toArray, map_eq_pure_bind]
  refine wpAny_bind (wpAny_bind (wpAny_bind (PySem.W.kas_mapM (r := Value.type "tuple") _ (fun v hv Q' hq => ?_) (wpAny_pure ?_))))
  · obtain ⟨a, xs, e, ⟨o, ho, hc, n, hd⟩, i⟩ := hp v hv
    rw [e]
    refine PySem.W.Looks.here (show PySem.W.Looks M s.heap (typeOf (.ref a)) o.cls from (PySem.W.Looks.ld ho).andThen .now) ?_
    rw [hc]
    exact hq
  · subst ev
    have hall : ((List.map (fun _ => Value.type "tuple") (v0 :: r0)).toArray.all fun x => x == Value.type "tuple") = true := by
      simp only [List.all_toArray, List.all_map, List.all_eq_true]
      intro _ _
      first | rfl | decide
    have h0 : (List.map (fun _ => Value.type "tuple") (v0 :: r0)).toArray[0]? = some (Value.type "tuple") := by simp
    rw [h0]
    simp only [hall, if_true]
    exact wpAny_pure (wpAny_pure h)
end
section
variable {prog : Program} {w : World} {A : Around} {s : Shared} {E : Value → Shared → Prop}
theorem empty_sortable {a : Addr} {vs : List Value} {k : Value → List Int} {v0 : Value} {r0 : List Value} (ev : vs = v0 :: r0) (h0 : k v0 = []) (hu : A.units < cLine) (hp : ∀ v ∈ vs, TS.TupInts s.heap v (k v)) (ha : ∀ o, s.heap.get? a = some o → o.cls ≠ .type "tuple") : SrtO.SortableO prog w A s a vs fun v u => lexL (k v) (k u) := by
  intro h' keep
  have hp' : ∀ v ∈ vs, TS.TupInts h' v (k v) := fun v hm => (hp v hm).keeps fun b o e c => keep b o (fun z => by subst z; exact ha o e c) e
  refine ⟨oneType', fun Q E hq => kind_empty (s := { s with heap := h' }) ev h0 hp' hq, fun p q hm hm' => ?_⟩
  exact one_tups (s := { s with heap := h' }) (hp' _ hm) (hp' _ hm') hu ⟨rfl, rfl⟩
end
end Px
set_option Elab.async false
set_option linter.all false
set_option maxRecDepth 100000
namespace Px
open PySem PySem.Spec PyProof.Rows L2
section
variable {prog : Program} {w : World} {A : Around} {s : Shared} {E : Value → Shared → Prop}
theorem sorted_tups {l : Addr} {vs : List Value} {k : Value → List Int} {Q : Value → Shared → Prop} (hu : A.in1.in1.units < cLine) (hl : s.heap.IsList l vs.toArray) (hz : vs.length ≤ sizeLine) (hp : ∀ v ∈ vs, TS.TupInts s.heap v (k v))
    (hk : (∀ v ∈ vs, k v ≠ []) ∨ ∃ v0 r0, vs = v0 :: r0 ∧ k v0 = [])
    (h : ∀ (h' : Heap) (d : Addr) (out : List Value), SrtO.Srtd (fun v u => lexL (k v) (k u)) out → SrtO.Stb (fun v u => lexL (k v) (k u)) out vs → (∀ b o, s.heap.get? b = some o → h'.get? b = some o) → s.heap.objs.size ≤ d → (∃ n, h'.get? d = some (seqObj "list" out.toArray n)) → Q (.ref d) { s with heap := h' }) :
    wpAny (model prog w) A (call (.builtin "sorted") [.ref l]) Q E s := by
  refine SrtO.sorted_ord (swo_lexL k) hl hz (fun h2 h₁ a ha kk => ?_) fun out hs hb => ?_
  · have hp' : ∀ v ∈ vs, TS.TupInts h₁ v (k v) := fun v hm => (hp v hm).keeps fun b o e _ => (kk b o e).2
    have hc : ∀ o, ({ s with heap := h₁ } : Shared).heap.get? a = some o → o.cls ≠ .type "tuple" := fun o e => by
      have e' : some o = some (seqObj "list" vs.toArray 0) := e.symm.trans ha
      cases e'
      intro c
      exact absurd (Value.type.inj c) (by decide)
    rcases hk with hk | ⟨v0, r0, ev, h0⟩
    · exact ints_sortable (s := { s with heap := h₁ }) (by omega) (fun v hm => ⟨hp' v hm, hk v hm⟩) hc
    · exact empty_sortable (s := { s with heap := h₁ }) ev h0 hu hp' hc
  · exact h _ _ out hs hb (fun b o e => sortedAll_old e) (Nat.le_succ _) (sortedAll_at s.heap vs out.toArray)
end
def rSortedI (K : PySem.W.Frag) : List V → Hp → VK → Prop := fun vs H Q => ∃ (a : Addr) (xs : List V) (k : V → List Int), vs = [V.ref a] ∧ SqL K H a xs ∧ (∀ x ∈ xs, ∃ t, x = V.ref t ∧ SqT K H t ((k x).map V.int)) ∧
  ((∀ x ∈ xs, k x ≠ []) ∨ ∃ x0 r0, xs = x0 :: r0 ∧ k x0 = []) ∧ ∀ ys p, SrtO.Srtd (fun x y => lexL (k x) (k y)) ys → ys.Perm xs → H p = none → Q (.ref p) (upd H p (.lst ys))
section
variable {X : Cx}
theorem cr_sortedI (hu : X.A.in1.in1.units < cLine) : CallR X (.builtin "sorted") (rSortedI X.K) := by
  intro pins s σ H vs us Q I r h
  obtain ⟨a, xs, k, rfl, hs, hx, hk, q⟩ := h
  obtain ⟨its, rv, hl, hz⟩ := I.list hs
  obtain ⟨u, rfl, ru⟩ := vals1 r
  obtain rfl : u = Value.ref a := ru
  obtain ⟨e1, e2⟩ := refs_back rv fun x m => by
    obtain ⟨t, e, _⟩ := hx x m
    exact ⟨t, e⟩
  refine sorted_tups (k := fun u => k (backV u)) hu hl.isList (by rw [← rv.length]; exact hz) (fun v hv => ?_) ?_ fun h' d out h1 h2 kp hd hn => ?_
  · obtain ⟨t, rfl⟩ := e2 v hv
    have hm : V.ref t ∈ xs := by rw [e1]; exact List.mem_map.mpr ⟨_, hv, rfl⟩
    obtain ⟨t', e, ht⟩ := hx _ hm
    cases e
    obtain ⟨its2, r2, pt, _⟩ := I.tuple ht
    have ia := intsAre_of r2
    exact ⟨t, its2.toArray, rfl, pt, (show IntsAre its2 (k (V.ref t)) from ia)⟩
  · rcases hk with hk | ⟨x0, r0, ex, h0⟩
    · refine .inl fun v hv => hk _ ?_
      rw [e1]; exact List.mem_map.mpr ⟨_, hv, rfl⟩
    · rw [e1] at ex
      cases its with
      | nil => exact nomatch ex
      | cons v r =>
        injection ex with ex _
        exact .inr ⟨v, r, rfl, by rw [ex]; exact h0⟩
  · have h3 : ∀ u ∈ out, ∃ a, u = Value.ref a := fun u hu => e2 u (h2.perm.mem_iff.mp hu)
    obtain ⟨n, hn⟩ := hn
    have hb : (out.map backV).Perm xs := by
      rw [e1]
      exact h2.perm.map backV
    refine ⟨.ref d, upd H d (.lst (out.map backV)), I.laid (t' := s.toks) kp hd ⟨?_, out, n, vals_back h3, hn⟩, rfl, q _ d (SrtO.srtd_map h1) hb (I.hok.fresh hd)⟩
    rw [hb.length_eq]
    exact hz
end
end Px
set_option Elab.async false
set_option linter.all false
set_option maxRecDepth 100000
namespace Px
open PySem PySem.Spec PyProof.Rows L2
def TupsV (K : PySem.W.Frag) (H : Hp) : List V → List (List Int) → Prop
  | [], [] => True
  | x :: xs, n :: ns => (∃ t, x = .ref t ∧ SqT K H t (n.map V.int)) ∧ TupsV K H xs ns
  | _, _ => False
def rSortedQ (K : PySem.W.Frag) : List V → Hp → VK → Prop := fun vs H Q => ∃ (F : Hp) (a : Addr) (xs : List V) (nss : List (List Int)), Same F H ∧ vs = [V.ref a] ∧ SqL K H a xs ∧ TupsV K F xs nss ∧ ((∀ n ∈ nss, n ≠ []) ∨ ∃ r, nss = [] :: r) ∧
  ∀ ys mss p, TupsV K F ys mss → mss.Pairwise (fun x y => lexL y x = false) → mss.Perm nss → H p = none → Q (.ref p) (upd H p (.lst ys))
theorem int_map_inj : ∀ {a b : List Int}, a.map V.int = b.map V.int → a = b
  | [], [], _ => rfl
  | [], _ :: _, h => (nomatch h)
  | _ :: _, [], h => (nomatch h)
  | x :: r, y :: s, h => by
    injection h with h1 h2
    rw [V.int.inj h1, int_map_inj h2]
open Classical in
noncomputable def kOf (K : PySem.W.Frag) (H : Hp) (x : V) : List Int := if h : ∃ ns t, x = V.ref t ∧ SqT K H t (List.map V.int ns) then h.choose else []
section
variable {X : Cx} {pins : List (Addr × Obj)} {σ : L2.St} {H F : Hp} {s : Shared}
theorem kOf_is (I : Inv X pins σ H s) (sm : Same F H) {x : V} {ns : List Int} {t : Addr} (e : x = .ref t) (h : SqT X.K F t (ns.map V.int)) : kOf X.K F x = ns := by
  have hx : ∃ ns t, x = V.ref t ∧ SqT X.K F t (List.map V.int ns) := ⟨ns, t, e, h⟩
  unfold kOf
  rw [dif_pos hx]
  obtain ⟨t', e', h'⟩ := hx.choose_spec
  rw [e] at e'
  cases e'
  exact int_map_inj (I.tuple_inj (same_t sm h') (same_t sm h))
theorem kOf_all (I : Inv X pins σ H s) (sm : Same F H) : ∀ {xs : List V} {nss : List (List Int)}, TupsV X.K F xs nss → xs.map (kOf X.K F) = nss ∧ ∀ x ∈ xs, ∃ t, x = .ref t ∧ SqT X.K F t ((kOf X.K F x).map V.int)
  | [], [], _ => ⟨rfl, fun _ h => (nomatch h)⟩
  | [], _ :: _, h => h.elim
  | _ :: _, [], h => h.elim
  | x :: xs, n :: ns, ⟨⟨t, e, h1⟩, h2⟩ => by
    obtain ⟨a1, a2⟩ := kOf_all I sm h2
    have ek := kOf_is I sm e h1
    refine ⟨by rw [List.map_cons, a1, ek], fun y hy => ?_⟩
    rcases List.mem_cons.mp hy with rfl | hy
    · exact ⟨t, e, by rw [ek]; exact h1⟩
    · exact a2 y hy
theorem tupsV_map {K : PySem.W.Frag} {H : Hp} {k : V → List Int} : ∀ {ys : List V}, (∀ x ∈ ys, ∃ t, x = .ref t ∧ SqT K H t ((k x).map V.int)) → TupsV K H ys (ys.map k)
  | [], _ => trivial
  | y :: ys, h => ⟨h y List.mem_cons_self, tupsV_map fun x hx => h x (List.mem_cons_of_mem _ hx)⟩
theorem cr_sortedQ (hu : X.A.in1.in1.units < cLine) : CallR X (.builtin "sorted") (rSortedQ X.K) := by
  intro pins s σ H vs us Q I r h
  obtain ⟨F, a, xs, nss, sm, e, hs, ht, hk, q⟩ := h
  obtain ⟨k1, k2⟩ := kOf_all I sm ht
  refine cr_sortedI hu pins s σ H vs us Q I r ⟨a, xs, kOf X.K F, e, hs, fun x hx => let ⟨t, e, h⟩ := k2 x hx; ⟨t, e, same_t sm h⟩, ?_, fun ys p h1 h2 hp => ?_⟩
  · rcases hk with hk | ⟨r, er⟩
    · exact .inl fun x hx => hk _ (by rw [← k1]; exact List.mem_map.mpr ⟨x, hx, rfl⟩)
    · rw [er] at k1
      cases xs with
      | nil => exact nomatch k1
      | cons x xr =>
        injection k1 with k1 _
        exact .inr ⟨x, xr, rfl, k1⟩
  · refine q ys (ys.map (kOf X.K F)) p (tupsV_map fun x hx => k2 x (h2.mem_iff.mp hx)) (List.pairwise_map.mpr h1) ?_ hp
    rw [← k1]
    exact h2.map _
end
theorem hu_in2 {A : Around} {k : Nat} (hr : Room k A) : A.in1.in1.units < cLine := by
  show A.units + 1 + 1 < cLine
  have := hr.units
  omega
abbrev tupI (ns : List Int) : D := .tup (ns.map .int)
def fSorted : G1 := fun x k => ∃ nss : List (List Int), x = .lst (nss.map tupI) ∧ ((∀ n ∈ nss, n ≠ []) ∨ ∃ r, nss = [] :: r) ∧ ∀ mss : List (List Int), mss.Pairwise (fun x y => lexL y x = false) → mss.Perm nss → k (mss.map tupI)
theorem tupsV_of {K : PySem.W.Frag} {F : Hp} : ∀ {nss : List (List Int)} {xs : List V}, RpL K F (nss.map tupI) xs → TupsV K F xs nss
  | [], xs, h => by
    have e : xs = [] := h
    subst e; trivial
  | n :: ns, xs, h => by
    obtain ⟨v, r, rfl, ⟨a, ys, e, hs, rl⟩, h2⟩ := h
    have ey := rl.ints
    subst ey
    exact ⟨⟨a, e, hs⟩, tupsV_of h2⟩
theorem rpl_tups {K : PySem.W.Frag} {F : Hp} : ∀ {xs : List V} {nss : List (List Int)}, TupsV K F xs nss → RpL K F (nss.map tupI) xs
  | [], [], _ => rfl
  | [], _ :: _, h => h.elim
  | _ :: _, [], h => h.elim
  | x :: xs, n :: ns, ⟨⟨t, e, h1⟩, h2⟩ => ⟨x, xs, rfl, ⟨t, n.map V.int, e, h1, RpL.of_ints n⟩, rpl_tups h2⟩
theorem bg_sorted {K : PySem.W.Frag} : BG1 K (rSortedQ K) fSorted := by
  intro g σ H ρ M F O x v k Q A rx h c
  obtain ⟨nss, rfl, hk, hq⟩ := h
  obtain ⟨a, xs, e, hp, rl⟩ := rx.lst A
  exact ⟨F, a, xs, nss, A.sub, by rw [e], .inl (.inl hp), tupsV_of rl, hk, fun ys mss p ht h1 h2 hn => c (mss.map tupI) p ys hn (rpl_tups ht) (hq mss h1 h2)⟩
section
variable {X : Cx} {W : WX} {a : Expr} {pa : PTE} {p pos : Pos}
theorem dl_sorted (hu : X.A.in1.in1.units < cLine) (hg : Gl X "sorted") (hm : X.mg "sorted" = none) (ha : DO X W a pa) (he : starEach [a] X.env = (false, eval a X.env) :: starEach [] X.env := by rfl) (hpl : (backTo pos (starEach [] X.env)).any (·.1) = false := by rfl) :
    DL X W (.Call (.Name "sorted" p) [a] [] pos) (dG1 fSorted pa) := dl_b1 (cr_sortedQ hu) bg_sorted hg hm (by decide +kernel) ha (by decide) (by decide) he hpl
end
end Px
set_option Elab.async false
set_option linter.all false
set_option maxRecDepth 100000
namespace Px
open PySem PySem.Spec PyProof.Rows L2
structure Cl where
  (BadSpeed BadHalf BadNumber BadStretch BadDoubt BadHalves BadPattern TooGreat NoSpeed BadLook Clash BadProgram BadSayings BadGroups BadBands BadDeed BadLine Rows Net Pattern Program Moment Mark Watch FlashError : Addr)
  tb : Nat → Addr
  wd : World
def isI : D → Bool
  | .int _ => true
  | _ => false
def plain (d : D) : Bool := (tyD d).isSome
def parts (d : D) : Bool := match d with | .tup l => l.all plain | _ => true
def btwD (d : D) (lo hi : Int) : Bool := match d with | .int i => decide (lo ≤ i) && decide (i ≤ hi) | _ => false
def Bd (i : Int) : Prop := i.natAbs < 2 ^ 8000
theorem Bd.div {i : Int} (h0 : 0 < i) (h : Bd i) (j : Int) : CDivW j i := ⟨h0, Nat.lt_trans (PySem.Flt.log2_lt_of (by decide) h) (by decide)⟩
theorem Bd.mul {i j : Int} (h : Bd i) (h' : Bd j) : CMulX i j := mulx_ok h h' (by decide)
theorem Bd.le {i j : Int} (h : Bd j) (h0 : 0 ≤ i) (h1 : i ≤ j) : Bd i := Nat.lt_of_le_of_lt (by omega) h
theorem Bd.small {i : Int} (h0 : -(2 ^ 200) ≤ i) (h1 : i ≤ 2 ^ 200) : Bd i := by
  have e : i.natAbs ≤ 2 ^ 200 := by omega
  exact Nat.lt_of_le_of_lt e (Nat.pow_lt_pow_right (by decide) (by decide))
theorem cmul_of {i j : Int} {a b : Nat} (ha : i.natAbs < 2 ^ a) (hb : j.natAbs < 2 ^ b) (h : a + b ≤ 134217728) : CMulX i j := mulx_ok ha hb h
def g0 (a b : Int) : Int := (Int.gcd a b : Int)
def spd (a b : Int) : D := .tup [.int (a / g0 a b), .int (b / g0 a b)]
def near (s t : Int) : Int := if s - t % s < t % s then s - t % s else t % s
def foldD (h t b : Int) : D := spd (near (2 * h * b) t) b
def isSpD : D → Bool
  | .tup [.int a, .int b] => decide (0 ≤ a) && (decide (1 ≤ b) && decide (g0 a b = 1))
  | _ => false
def sp_is_integer (C : Cl) : PSp := fun ds M q _ => ar1 ds fun d => plain d = true ∧ q (.bl (isI d)) M
def sp_is_between (C : Cl) : PSp := fun ds M q _ => ar3 ds fun d a b => plain d = true ∧ asI a fun lo => asI b fun hi => q (.bl (btwD d lo hi)) M
def sp_divisor (C : Cl) : PSp := fun ds M q _ => ar2 ds fun a b => asI a fun x => asI b fun y => 0 ≤ x ∧ 0 ≤ y ∧ q (.int (g0 x y)) M
def sp_lowest (C : Cl) : PSp := fun ds M q _ => ar2 ds fun a b => asI a fun x => asI b fun y => 0 ≤ x ∧ 0 < y ∧ Bd y ∧ q (spd x y) M
def sp_is_speed (C : Cl) : PSp := fun ds M q _ => ar1 ds fun d => plain d = true ∧ parts d = true ∧ q (.bl (isSpD d)) M
def sp_need_speed (C : Cl) : PSp := fun ds M q e => ar1 ds fun d => plain d = true ∧ parts d = true ∧ if isSpD d = true then q .non M else e (.ref C.BadSpeed) [] M
def sp_is_half (C : Cl) : PSp := fun ds M q _ => ar1 ds fun d => plain d = true ∧ q (.bl (btwD d 1 1000)) M
def sp_folded (C : Cl) : PSp := fun ds M q _ => ar3 ds fun h t b => asI h fun h => asI t fun t => asI b fun b => (0 < h ∧ 0 ≤ t ∧ 0 < b) ∧ (h ≤ 2 ^ 1000 ∧ b ≤ 2 ^ 1000) ∧ q (foldD h t b) M
def rd_is_integer (C : Cl) : PTS := (dRet (dAndV (dB1 (fIsi "int") (dVar 0)) (dNotV (dB1 (fIsi "bool") (dVar 0)))))
def rd_is_between (C : Cl) : PTS := (dRet (dAndV (dCall (sp_is_integer C) [] (dCons (dVar 0) dNil)) (dChain fLe fLe (dVar 1) (dVar 0) (dVar 2))))
def rd_divisor (C : Cl) : PTS := (dSeq (dWhile (dTst (dOp fGt (dVar 1) (dC (.int 0)))) (dPar 0 1 (dCons (dVar 1) (dCons (dOp fMod (dVar 0) (dVar 1)) dNil)))) (dRet (dVar 0)))
def rd_is_speed (C : Cl) : PTS := (dSeq (dIfS (dOr (dNot (dTst (dB1 (fIsi "tuple") (dVar 0)))) (dOr (dTst (dOp fNe (dB1 fLen (dVar 0)) (dC (.int 2)))) (dNot (dTst (dB1 fAll (dL (dComp [1] (iT (dVar 0)) (gNm 1) dYes (dCall (sp_is_integer C) [] (dCons (dVar 1) dNil))))))))) (dRet (dC (.bl false))) dNext)
    (dRet (dAndV (dOp fGe (dOp fIx (dVar 0) (dC (.int 0))) (dC (.int 0))) (dAndV (dOp fGe (dOp fIx (dVar 0) (dC (.int 1))) (dC (.int 1))) (dOp fEq (dCall (sp_divisor C) [] (dCons (dOp fIx (dVar 0) (dC (.int 0))) (dCons (dOp fIx (dVar 0) (dC (.int 1))) dNil))) (dC (.int 1)))))))
def rd_lowest (C : Cl) : PTS := (dSeq (dSet 2 (dCall (sp_divisor C) [] (dCons (dVar 0) (dCons (dVar 1) dNil)))) (dRet (dTup (dCons (dOp fDiv (dVar 0) (dVar 2)) (dCons (dOp fDiv (dVar 1) (dVar 2)) dNil)))))
theorem sh_is_integer (C : Cl) : Shows (sp_is_integer C) 1 (rd_is_integer C) := by
  intro ds M q e h
  obtain ⟨d, rfl, hp, hq⟩ := ar1_of h
  cases d <;> first
    | exact ⟨M, MLe.refl M, hq⟩
    | exact absurd hp (by simp [plain, tyD])
theorem sh_is_between (C : Cl) : Shows (sp_is_between C) 3 (rd_is_between C) := by
  intro ds M q e h
  obtain ⟨d, a, b, rfl, hp, h⟩ := ar3_of h
  obtain ⟨lo, e1, h⟩ := asI_of h
  obtain ⟨hi, e2, hq⟩ := asI_of h
  subst e1 e2
  refine ⟨hp, ?_⟩
  cases d with
  | int i =>
    show if decide (lo ≤ i) = true then _ else _
    by_cases h1 : lo ≤ i
    · refine itT (decide_eq_true h1) ⟨M, MLe.refl M, ?_⟩
      have hq : q (.bl (decide (lo ≤ i) && decide (i ≤ hi))) M := hq
      rw [decide_eq_true h1] at hq
      exact hq
    · refine itF (decide_eq_false h1) ⟨M, MLe.refl M, ?_⟩
      have hq : q (.bl (decide (lo ≤ i) && decide (i ≤ hi))) M := hq
      rw [decide_eq_false h1] at hq
      exact hq
  | _ => first | exact ⟨M, MLe.refl M, hq⟩ | exact absurd hp (by simp [plain, tyD])
theorem g0_step (x y : Int) : g0 y (x % y) = g0 x y := by
  unfold g0
  have e : x % y = x + y * (-(x / y)) := by
    rw [Int.emod_def, Int.mul_neg]; omega
  rw [e, Int.gcd_add_mul_left_right, Int.gcd_comm]
theorem g0_zero {x : Int} (h : 0 ≤ x) : g0 x 0 = x := by
  unfold g0
  rw [Int.gcd_zero_right]
  omega
theorem sh_divisor (C : Cl) : Shows (sp_divisor C) 2 (rd_divisor C) := by
  intro ds M q e h
  obtain ⟨a, b, rfl, h⟩ := ar2_of h
  obtain ⟨x, e1, h⟩ := asI_of h
  obtain ⟨y, e2, h0, h1, hq⟩ := asI_of h
  subst e1 e2
  refine ⟨fun m ρ M' => ∃ x' y' : Int, ρ = [some (.val (.int x')), some (.val (.int y'))] ∧ M' = M ∧ 0 ≤ x' ∧ 0 ≤ y' ∧ g0 x' y' = g0 x y ∧ m = y'.toNat, ⟨_, x, y, rfl, rfl, h0, h1, rfl, rfl⟩, ?_⟩
  rintro m ρ M' ⟨x', y', rfl, rfl, g1, g2, g3, rfl⟩
  by_cases hy : 0 < y'
  · refine itT (decide_eq_true hy) ⟨hy, ?_⟩
    have e1 := Int.emod_nonneg x' (show y' ≠ 0 by omega)
    have e2 := Int.emod_lt_of_pos x' hy
    exact ⟨_, by omega, y', x' % y', rfl, rfl, g2, e1, by rw [g0_step]; exact g3, rfl⟩
  · refine itF (decide_eq_false hy) ⟨M', MLe.refl M', ?_⟩
    have e0 : y' = 0 := by omega
    rw [e0, g0_zero g1] at g3
    rw [g3]
    exact hq
theorem g0_pos {x y : Int} (h : 0 < y) : 0 < g0 x y := by
  have := Int.gcd_pos_iff (a := x) (b := y) |>.mpr (.inr (by omega))
  unfold g0
  omega
theorem g0_le {x y : Int} (h : 0 < y) : g0 x y ≤ y := by
  unfold g0
  exact Int.le_of_dvd h (Int.gcd_dvd_right ..)
theorem sh_lowest (C : Cl) : Shows (sp_lowest C) 3 (rd_lowest C) := by
  intro ds M q e h
  obtain ⟨a, b, rfl, h⟩ := ar2_of h
  obtain ⟨x, e1, h⟩ := asI_of h
  obtain ⟨y, e2, h0, h1, hb, hq⟩ := asI_of h
  subst e1 e2
  have gp := g0_pos (x := x) h1
  have gb := hb.le (Int.le_of_lt gp) (g0_le (x := x) h1)
  exact ⟨h0, Int.le_of_lt h1, gb.div gp x, gb.div gp y, by show 2 ≤ 1000000; decide, M, MLe.refl M, hq⟩
def rd_need_speed (C : Cl) : PTS := (dIfS (dNot (dTst (dCall (sp_is_speed C) [] (dCons (dVar 0) dNil)))) (dRaise (.ref C.BadSpeed)) dNext)
def rd_is_half (C : Cl) : PTS := (dRet (dCall (sp_is_between C) [] (dCons (dVar 0) (dCons (dC (.int 1)) (dCons (dC (.int 1000)) dNil)))))
def rd_folded (C : Cl) : PTS := (dSeq (dSet 3 (dOp fMod (dVar 1) (dOp fMul (dOp fMul (dC (.int 2)) (dVar 0)) (dVar 2))))
    (dRet (dCall (sp_lowest C) [] (dCons (dB1 fMin (dL (dLst (dCons (dVar 3) (dCons (dOp fSub (dOp fMul (dOp fMul (dC (.int 2)) (dVar 0)) (dVar 2)) (dVar 3)) dNil))))) (dCons (dVar 2) dNil)))))
theorem sh_is_speed (C : Cl) : Shows (sp_is_speed C) 2 (rd_is_speed C) := by
  intro ds M q e h
  obtain ⟨d, rfl, hp, hpart, hq⟩ := ar1_of h
  cases d with
  | tup l =>
    rcases l with _ | ⟨a, _ | ⟨b, _ | ⟨c, r⟩⟩⟩
    · exact ⟨rfl, M, MLe.refl M, hq⟩
    · cases a <;> exact ⟨rfl, M, MLe.refl M, hq⟩
    · obtain ⟨ha, hb⟩ : plain a = true ∧ plain b = true := by
        have h2 : (plain a && (plain b && true)) = true := hpart
        simpa using h2
      refine ⟨rfl, rfl, ha, by show 0 < 1000000; decide, hb, by show 1 < 1000000; decide, ?_⟩
      cases a with
      | int x =>
        cases b with
        | int y =>
          refine ⟨_, rfl, ?_⟩
          have hq : q (.bl (decide (0 ≤ x) && (decide (1 ≤ y) && decide (g0 x y = 1)))) M := hq
          by_cases h0 : 0 ≤ x
          · refine itT (decide_eq_true h0) ⟨_, rfl, ?_⟩
            rw [decide_eq_true h0] at hq
            by_cases h1 : 1 ≤ y
            · refine itT (decide_eq_true h1) ⟨_, rfl, _, rfl, h0, by omega, rfl, M, MLe.refl M, ?_⟩
              rw [decide_eq_true h1] at hq
              exact hq
            · refine itF (decide_eq_false h1) ⟨M, MLe.refl M, ?_⟩
              rw [decide_eq_false h1] at hq
              exact hq
          · refine itF (decide_eq_false h0) ⟨M, MLe.refl M, ?_⟩
            rw [decide_eq_false h0] at hq
            exact hq
        | _ => exact ⟨M, MLe.refl M, hq⟩
      | _ => cases b <;> exact ⟨M, MLe.refl M, hq⟩
    · refine ⟨rfl, ?_⟩
      cases a <;> first | exact ⟨M, MLe.refl M, hq⟩ | (cases b <;> exact ⟨M, MLe.refl M, hq⟩)
  | _ => first | exact ⟨M, MLe.refl M, hq⟩ | exact absurd hp (by simp [plain, tyD])
theorem sh_need_speed (C : Cl) : Shows (sp_need_speed C) 1 (rd_need_speed C) := by
  intro ds M q e h
  obtain ⟨d, rfl, hp, hpart, hq⟩ := ar1_of h
  refine ⟨hp, hpart, ?_⟩
  cases c : isSpD d with
  | true =>
    rw [c] at hq
    exact ⟨M, MLe.refl M, hq⟩
  | false =>
    rw [c] at hq
    exact ⟨M, MLe.refl M, hq⟩
theorem sh_is_half (C : Cl) : Shows (sp_is_half C) 1 (rd_is_half C) := by
  intro ds M q e h
  obtain ⟨d, rfl, hp, hq⟩ := ar1_of h
  exact ⟨hp, M, MLe.refl M, hq⟩
theorem sh_folded (C : Cl) : Shows (sp_folded C) 4 (rd_folded C) := by
  intro ds M q e hh0
  obtain ⟨x1, x2, x3, rfl, hx⟩ := ar3_of hh0
  obtain ⟨h, e1, x⟩ := asI_of hx
  subst e1
  obtain ⟨t, e2, x⟩ := asI_of x
  obtain ⟨b, e3, ⟨h0, t0, b0⟩, ⟨hh, bb⟩, hq⟩ := asI_of x
  subst e2 e3
  have m0 : 0 < 2 * h := by omega
  have m1 : 0 < 2 * h * b := Int.mul_pos m0 b0
  have r0 := Int.emod_nonneg t (show 2 * h * b ≠ 0 by omega)
  have r1 := Int.emod_lt_of_pos t m1
  have q1 : CMulX 2 h := cmul_of (a := 2) (b := 1001) (by decide) (by
    have : h.natAbs ≤ 2 ^ 1000 := by omega
    exact Nat.lt_of_le_of_lt this (by decide)) (by decide)
  have q2 : CMulX (2 * h) b := cmul_of (a := 1002) (b := 1001) (by
    have : (2 * h).natAbs ≤ 2 * 2 ^ 1000 := by omega
    exact Nat.lt_of_le_of_lt this (by decide)) (by
    have : b.natAbs ≤ 2 ^ 1000 := by omega
    exact Nat.lt_of_le_of_lt this (by decide)) (by decide)
  refine ⟨q1, q2, m1, q1, q2, by show 2 ≤ 1000000; decide, ?_, b0, ?_, M, MLe.refl M, ?_⟩
  · show 0 ≤ near (2 * h * b) t
    unfold near
    split <;> omega
  · have : b.natAbs ≤ 2 ^ 1000 := by omega
    exact Nat.lt_of_le_of_lt this (by decide)
  · exact hq
end Px
set_option Elab.async false
set_option linter.all false
set_option maxRecDepth 100000
namespace Px
open PySem PySem.Spec PyProof.Rows L2
theorem g0_dvd_l (x y : Int) : g0 x y ∣ x := Int.gcd_dvd_left ..
theorem g0_dvd_r (x y : Int) : g0 x y ∣ y := Int.gcd_dvd_right ..
theorem near_bounds {s : Int} (hs : 0 < s) (t : Int) : 0 ≤ near s t ∧ 2 * near s t ≤ s ∧ (near s t = t % s ∨ near s t = s - t % s) := by
  have a := Int.emod_nonneg t (show s ≠ 0 by omega)
  have b := Int.emod_lt_of_pos t hs
  unfold near
  split <;> omega
def sp__law_fraction : PSp := fun ds M q _ => ar2 ds fun a b => asI a fun x => asI b fun y => (0 ≤ x ∧ 0 < y ∧ Bd y) ∧ q (spd x y) M
def rd__law_fraction : PTS := (dSeq (dPar 2 3 (dCons (dVar 0) (dCons (dVar 1) dNil)))
    (dSeq (dWhile (dTst (dOp fGt (dVar 3) (dC (.int 0)))) (dPar 2 3 (dCons (dVar 3) (dCons (dOp fMod (dVar 2) (dVar 3)) dNil))))
    (dRet (dTup (dCons (dOp fDiv (dVar 0) (dVar 2)) (dCons (dOp fDiv (dVar 1) (dVar 2)) dNil))))))
theorem sh__law_fraction : Shows sp__law_fraction 4 rd__law_fraction := by
  intro ds M q e h
  obtain ⟨a, b, rfl, h⟩ := ar2_of h
  obtain ⟨x, e1, h⟩ := asI_of h
  obtain ⟨y, e2, ⟨h0, h1, hb⟩, hq⟩ := asI_of h
  subst e1 e2
  have gp := g0_pos (x := x) h1
  have gb := hb.le (Int.le_of_lt gp) (g0_le (x := x) h1)
  refine ⟨fun m ρ M' => ∃ x' y' : Int, ρ = [some (.val (.int x)), some (.val (.int y)), some (.val (.int x')), some (.val (.int y'))] ∧ M' = M ∧ 0 ≤ x' ∧ 0 ≤ y' ∧ g0 x' y' = g0 x y ∧ m = y'.toNat, ⟨_, x, y, rfl, rfl, h0, by omega, rfl, rfl⟩, ?_⟩
  rintro m ρ M' ⟨x', y', rfl, rfl, g1, g2, g3, rfl⟩
  by_cases hy : 0 < y'
  · refine itT (decide_eq_true hy) ⟨hy, ?_⟩
    have e1 := Int.emod_nonneg x' (show y' ≠ 0 by omega)
    have e2 := Int.emod_lt_of_pos x' hy
    exact ⟨_, by omega, y', x' % y', rfl, rfl, g2, e1, by rw [g0_step]; exact g3, rfl⟩
  · have e0 : y' = 0 := by omega
    rw [e0, g0_zero g1] at g3
    subst g3
    exact itF (decide_eq_false hy) ⟨gb.div gp x, gb.div gp y, by show 2 ≤ 1000000; decide, M', MLe.refl M', hq⟩
end Px
set_option Elab.async false
set_option linter.all false
set_option maxRecDepth 100000
namespace Px
open PySem PySem.Spec PyProof.Rows L2
theorem compR_fm {gd : PTG} {tt : PTT} {te : PTE} {ρ : Rho} {M : Mm} {q : List D → Mm → Prop} (fm : D → Option D) : ∀ (ds acc : List D),
    (∀ d ∈ ds, ∀ (kt : D → Mm → Prop) (kf : Mm → Prop), (match fm d with | some y => kt y M | none => kf M) → gd d ρ fun ρ' => tt w0 ρ' M fun b M1 => if b = true then te w0 ρ' M1 kt else kf M1) →
    acc.length + ds.length ≤ 1000000 → q (acc ++ ds.filterMap fm) M → compR gd tt te ρ ds acc M q
  | [], acc, _, _, h => by
    have h : q (acc ++ []) M := h
    rw [List.append_nil] at h
    exact h
  | d :: r, acc, hb, hl, h => by
    have hl : acc.length + (r.length + 1) ≤ 1000000 := hl
    refine hb d List.mem_cons_self _ _ ?_
    rw [List.filterMap_cons] at h
    cases e : fm d with
    | some y =>
      rw [e] at h
      refine ⟨by omega, compR_fm fm r (acc ++ [y]) (fun d' h' => hb d' (List.mem_cons_of_mem _ h')) (by rw [List.length_append, List.length_singleton]; omega) ?_⟩
      rw [List.append_assoc]
      exact h
    | none =>
      rw [e] at h
      exact compR_fm fm r acc (fun d' h' => hb d' (List.mem_cons_of_mem _ h')) (by omega) h
theorem compR_map {gd : PTG} {tt : PTT} {te : PTE} {ρ : Rho} {M : Mm} {q : List D → Mm → Prop} (f : D → D) (ds : List D)
    (hb : ∀ d ∈ ds, ∀ (kt : D → Mm → Prop) (kf : Mm → Prop), kt (f d) M → gd d ρ fun ρ' => tt w0 ρ' M fun b M1 => if b = true then te w0 ρ' M1 kt else kf M1) (hl : ds.length ≤ 1000000)
    (h : q (ds.map f) M) : compR gd tt te ρ ds [] M q := by
  refine compR_fm (fun d => some (f d)) ds [] (fun d hd kt kf k => hb d hd kt kf k) (by simpa using hl) ?_
  rw [List.nil_append, show ds.filterMap (fun d => some (f d)) = ds.map f by rw [← List.filterMap_eq_map]; rfl]
  exact h
theorem forR_ind {gd : PTG} {pb : PTS} {w : PWi} {P : PEnds} (I : List D → Rho → Mm → Prop) (hb : ∀ d r ρ M, I (d :: r) ρ M → ∀ F : Rho → Mm → Prop, (∀ ρ' M', I r ρ' M' → F ρ' M') → gd d ρ fun ρ' => pb w { P with nx := F, ct := F, bk := P.nx } ρ' M)
    (he : ∀ ρ M, I [] ρ M → P.nx ρ M) : ∀ (ds : List D) (ρ : Rho) (M : Mm), I ds ρ M → forR gd pb w ds P ρ M
  | [], ρ, M, h => he ρ M h
  | d :: r, ρ, M, h => hb d r ρ M h _ fun ρ' M' h' => forR_ind I hb he r ρ' M' h'
theorem forR_ix {gd : PTG} {pb : PTS} {w : PWi} {P : PEnds} (I : Nat → Rho → Mm → Prop) : ∀ (ds : List D) (k : Nat), (∀ i d, ds[i]? = some d → ∀ F : Rho → Mm → Prop, (∀ ρ M, I (k + i + 1) ρ M → F ρ M) → ∀ ρ M, I (k + i) ρ M → gd d ρ fun ρ' => pb w { P with nx := F, ct := F, bk := P.nx } ρ' M) →
    (∀ ρ M, I (k + ds.length) ρ M → P.nx ρ M) → ∀ ρ M, I k ρ M → forR gd pb w ds P ρ M
  | [], k, _, he, ρ, M, h => he ρ M h
  | d :: ds, k, hb, he, ρ, M, h => hb 0 d rfl _ (fun ρ' M' h' => forR_ix I ds (k + 1) (fun i d' hd' F hF ρ2 M2 h2 => hb (i + 1) d' hd' F (fun ρ3 M3 h3 => hF ρ3 M3 (by
      have e : k + 1 + i + 1 = k + (i + 1) + 1 := by omega
      rw [e]; exact h3)) ρ2 M2 (by
      have e : k + (i + 1) = k + 1 + i := by omega
      rw [e]; exact h2)) (fun ρ2 M2 h2 => he ρ2 M2 (by
      have e : k + (d :: ds).length = k + 1 + ds.length := by rw [List.length_cons]; omega
      rw [e]; exact h2)) ρ' M' h') ρ M h
def sp_frac2 : PSp := fun ds M q _ => ar2 ds fun a b => asI a fun x => asI b fun y => (0 ≤ x ∧ 0 < y ∧ Bd y) ∧ ∀ d, d = spd x y → q d M
theorem sh_frac2 : Shows sp_frac2 4 rd__law_fraction := by
  intro ds M q e h
  obtain ⟨a, b, rfl, h⟩ := ar2_of h
  obtain ⟨x, e1, h⟩ := asI_of h
  obtain ⟨y, e2, hc, hq⟩ := asI_of h
  subst e1 e2
  exact sh__law_fraction _ M q e ⟨hc, hq _ rfl⟩
class SzB (n : outParam Nat) (i : Int) : Prop where
  h : i.natAbs < 2 ^ n
theorem SzB.of {n : Nat} {i : Int} (h0 : -(2 ^ n) < i) (h1 : i < 2 ^ n) : SzB n i := ⟨by
  have e : ((2 ^ n : Nat) : Int) = 2 ^ n := by rw [Int.natCast_pow]; rfl
  omega⟩
theorem SzB.mulX {i j : Int} {m n : Nat} (a : SzB m i) (b : SzB n j) (h : m + n ≤ 134217728 := by decide) : CMulX i j := cmul_of a.h b.h h
theorem SzB.bd {i : Int} {m : Nat} (a : SzB m i) (h : m ≤ 8000 := by decide) : Bd i := Nat.lt_of_lt_of_le a.h (Nat.pow_le_pow_right (by decide) h)
theorem SzB.divX {i j : Int} {m : Nat} (h0 : 0 < i) (a : SzB m i) (h : m ≤ 8000 := by decide) : CDivW j i := (a.bd h).div h0 j
theorem SzB.log {i : Int} {m : Nat} (a : SzB m i) (h : m ≤ 8000 := by decide) : i.natAbs.log2 < 9000 := Nat.lt_trans (PySem.Flt.log2_lt_of (by decide) (a.bd h)) (by decide)
theorem SzB.mono {i : Int} {m n : Nat} (a : SzB m i) (h : m ≤ n) : SzB n i := ⟨Nat.lt_of_lt_of_le a.h (Nat.pow_le_pow_right (by decide) h)⟩
theorem SzB.le {i j : Int} {m : Nat} (a : SzB m j) (h : i.natAbs ≤ j.natAbs) : SzB m i := ⟨Nat.lt_of_le_of_lt h a.h⟩
instance SzB.mul {i j : Int} {m n : Nat} [a : SzB m i] [b : SzB n j] : SzB (m + n) (i * j) := ⟨by
  rw [Int.natAbs_mul, Nat.pow_add]
  exact Nat.mul_lt_mul'' a.h b.h⟩
theorem pow_max {x y m n : Nat} (h : x < 2 ^ m) (h' : y < 2 ^ n) : x + y < 2 ^ (max m n + 1) := by
  have h1 := Nat.pow_le_pow_right (show 0 < 2 by decide) (Nat.le_max_left m n)
  have h2 := Nat.pow_le_pow_right (show 0 < 2 by decide) (Nat.le_max_right m n)
  rw [Nat.pow_succ]
  omega
instance SzB.add {i j : Int} {m n : Nat} [a : SzB m i] [b : SzB n j] : SzB (max m n + 1) (i + j) := ⟨Nat.lt_of_le_of_lt (Int.natAbs_add_le i j) (pow_max a.h b.h)⟩
instance SzB.sub {i j : Int} {m n : Nat} [a : SzB m i] [b : SzB n j] : SzB (max m n + 1) (i - j) := ⟨Nat.lt_of_le_of_lt (by omega) (pow_max a.h b.h)⟩
instance SzB.neg {i : Int} {m : Nat} [a : SzB m i] : SzB m (-i) := ⟨by rw [Int.natAbs_neg]; exact a.h⟩
instance SzB.div {i j : Int} {m : Nat} [a : SzB m i] : SzB (m + 1) (i / j) := ⟨by
  have h := a.h
  have e : (i / j).natAbs ≤ i.natAbs + 1 := by
    have := Int.natAbs_ediv_le_natAbs i j
    omega
  rw [Nat.pow_succ]
  have : 0 < 2 ^ m := Nat.pow_pos (by decide)
  omega⟩
instance SzB.mod {i j : Int} {m n : Nat} [a : SzB m i] [b : SzB n j] : SzB (max m n + 1) (i % j) := ⟨by
  refine Nat.lt_of_le_of_lt ?_ (pow_max a.h b.h)
  by_cases c : j = 0
  · subst c
    rw [Int.emod_zero]
    omega
  · have h1 := Int.emod_nonneg i c
    have h2 := Int.emod_lt i c
    omega⟩
instance SzB.lit {k : Nat} : SzB (Nat.log2 k + 1) (no_index (OfNat.ofNat k) : Int) := ⟨by
  show (k : Int).natAbs < 2 ^ (Nat.log2 k + 1)
  rw [Int.natAbs_natCast]
  exact Nat.lt_log2_self⟩
instance SzB.pow {i : Int} {m k : Nat} [a : SzB m i] : SzB (m * k + 1) (i ^ k) := ⟨by
  rw [Int.natAbs_pow, Nat.pow_succ, Nat.pow_mul]
  have h1 : i.natAbs ^ k ≤ (2 ^ m) ^ k := Nat.pow_le_pow_left (Nat.le_of_lt a.h) k
  have h2 : 0 < (2 ^ m) ^ k := Nat.pow_pos (Nat.pow_pos (by decide))
  omega⟩
instance SzB.ite {p : Prop} [Decidable p] {i j : Int} {m n : Nat} [a : SzB m i] [b : SzB n j] : SzB (max m n) (if p then i else j) := ⟨by
  split
  · exact Nat.lt_of_lt_of_le a.h (Nat.pow_le_pow_right (by decide) (Nat.le_max_left m n))
  · exact Nat.lt_of_lt_of_le b.h (Nat.pow_le_pow_right (by decide) (Nat.le_max_right m n))⟩
end Px
set_option Elab.async false
set_option linter.all false
set_option maxRecDepth 100000
namespace Px
open PySem PySem.Spec PyProof.Rows L2
def Szb (i : Int) : Prop := -(10 ^ 60) ≤ i ∧ i ≤ 10 ^ 60
structure Shw (n w : Nat) (d : D) : Prop where
  ok : okD n d = true
  sh : PyData.showable (toPy d) = true
  lv : PyData.leavesShort 70 (toPy d) = true
  wt : PyData.weight (toPy d) ≤ w
structure ShwL (n w : Nat) (l : List D) : Prop where
  ok : l.all (okD n) = true
  sh : PyData.showableAll (toPyL l) = true
  lv : PyData.leavesShortAll 70 (toPyL l) = true
  wt : PyData.weightAll (toPyL l) ≤ w
theorem Shw.int {n : Nat} {i : Int} (h : Szb i) : Shw n 211 (.int i) := by
  have a : i.natAbs < 10 ^ 61 := by have := h.1; have := h.2; omega
  have a2 : i.natAbs < 2 ^ 210 := Nat.lt_of_le_of_lt (show i.natAbs ≤ 10 ^ 60 by have := h.1; have := h.2; omega) (by decide)
  refine ⟨by cases n <;> rfl, ?_, ?_, ?_⟩
  · show PyData.showable (.int i) = true
    simp only [PyData.showable]
    exact decide_eq_true (PySem.Flt.log2_lt_of (by decide) (Nat.lt_of_lt_of_le a2 (Nat.pow_le_pow_right (by decide) (by decide))))
  · have := int_text_length_le10 (a := i) (k := 61) (by decide) a
    show decide _ = true
    refine decide_eq_true ?_
    simp only [PyData.shown]
    rw [PySem.ofString_length]
    omega
  · have := PySem.Flt.log2_lt_of (by decide) a2
    show PyData.weight (.int i) ≤ 211
    simp only [PyData.weight]
    split <;> omega
theorem Shw.bl {n : Nat} {b : Bool} : Shw n 0 (.bl b) := ⟨by cases n <;> rfl, rfl, rfl, by show PyData.weight (.bool b) ≤ 0; simp [PyData.weight]⟩
theorem Shw.non {n : Nat} : Shw n 0 .non := ⟨by cases n <;> rfl, rfl, rfl, by show PyData.weight .none ≤ 0; simp [PyData.weight]⟩
theorem Shw.str {n w : Nat} {s : Str} (h1 : PyData.strOk s = true := by decide +kernel) (h2 : PyData.leavesShort 70 (.str s) = true := by decide +kernel) (h3 : PyData.weight (.str s) ≤ w := by decide +kernel) : Shw n w (.str s) := ⟨by cases n <;> exact h1, rfl, h2, h3⟩
theorem ShwL.nil {n : Nat} : ShwL n 0 [] := ⟨rfl, rfl, rfl, by simp [toPyL, PyData.weightAll]⟩
theorem ShwL.cons {n a b : Nat} {d : D} {l : List D} (h : Shw n a d) (k : ShwL n b l) : ShwL n (a + 1 + b) (d :: l) := by
  refine ⟨by rw [List.all_cons, h.ok, k.ok]; rfl, ?_, ?_, ?_⟩
  · show (PyData.showable (toPy d) && PyData.showableAll (toPyL l)) = true
    rw [h.sh, k.sh]; rfl
  · show (PyData.leavesShort 70 (toPy d) && PyData.leavesShortAll 70 (toPyL l)) = true
    rw [h.lv, k.lv]; rfl
  · show PyData.weight (toPy d) + 1 + PyData.weightAll (toPyL l) ≤ _
    have := h.wt; have := k.wt; omega
theorem ShwL.all {n w : Nat} : ∀ {l : List D}, (∀ d ∈ l, Shw n w d) → ShwL n ((w + 1) * l.length) l
  | [], _ => .nil
  | d :: r, h => by
    have := ShwL.cons (h d List.mem_cons_self) (ShwL.all fun x q => h x (List.mem_cons_of_mem _ q))
    have e : (w + 1) * (d :: r).length = w + 1 + (w + 1) * r.length := by rw [List.length_cons, Nat.mul_succ]; omega
    rw [e]; exact this
theorem Shw.tup {n w : Nat} {l : List D} (h : ShwL n w l) : Shw (n + 1) w (.tup l) := ⟨h.ok, h.sh, h.lv, h.wt⟩
theorem Shw.lst {n w : Nat} {l : List D} (h : ShwL n w l) : Shw (n + 1) w (.lst l) := ⟨h.ok, h.sh, h.lv, h.wt⟩
theorem okD_mono : ∀ (n m : Nat) (d : D), n ≤ m → okD n d = true → okD m d = true := by
  intro n
  induction n with
  | zero => intro m d _ h; cases d <;> first | (cases m <;> exact h) | (cases h)
  | succ n ih =>
    intro m d hm h
    cases m with
    | zero => omega
    | succ m =>
      cases d with
      | tup l =>
        have h : l.all (okD n) = true := h
        show l.all (okD m) = true
        rw [List.all_eq_true] at h ⊢
        exact fun x hx => ih m x (by omega) (h x hx)
      | lst l =>
        have h : l.all (okD n) = true := h
        show l.all (okD m) = true
        rw [List.all_eq_true] at h ⊢
        exact fun x hx => ih m x (by omega) (h x hx)
      | _ => first | exact h | cases h
theorem Shw.ok50 {n w : Nat} {d : D} (h : Shw n w d) (hn : n ≤ 50 := by decide) : okD 50 d = true := okD_mono n 50 d hn h.ok
theorem Shw.show {n w : Nat} {d : D} (h : Shw n w d) (hw : w ≤ 200000) : showOk (toPy d) := by
  refine ⟨h.sh, ?_⟩
  have h1 := PyData.shown_le 70 (by decide) _ h.lv
  have h2 := Nat.mul_le_mul_left (70 + 2) (Nat.le_trans h.wt hw)
  omega
theorem Shw.ints {n : Nat} {ns : List Int} (h : ∀ i ∈ ns, Szb i) : ShwL n (212 * ns.length) (ns.map .int) := by
  have := ShwL.all (n := n) (w := 211) (l := ns.map .int) fun d hd => by
    obtain ⟨i, hi, rfl⟩ := List.mem_map.mp hd
    exact .int (h i hi)
  rw [List.length_map] at this
  exact this
end Px
set_option Elab.async false
set_option linter.all false
set_option maxRecDepth 100000
namespace Px
open PySem PySem.Spec PyProof.Rows L2
mutual
theorem hash_nt (w w' : World) : ∀ k : NestedKey, ntK k = true → k.hash w = k.hash w'
  | .none, _ => rfl
  | .num _, _ => rfl
  | .text _, h => by cases h
  | .tup ks, h => by
    have e := hashes_nt w w' ks h
    show reduceHash (Builtin.Tuple.tupleHashOf (NestedKey.hashes w ks)) = reduceHash (Builtin.Tuple.tupleHashOf (NestedKey.hashes w' ks))
    rw [e]
theorem hashes_nt (w w' : World) : ∀ ks : List NestedKey, ntKL ks = true → NestedKey.hashes w ks = NestedKey.hashes w' ks
  | [], _ => rfl
  | k :: r, h => by
    have h : (ntK k && ntKL r) = true := h
    rw [Bool.and_eq_true] at h
    show k.hash w :: NestedKey.hashes w r = k.hash w' :: NestedKey.hashes w' r
    rw [hash_nt w w' k h.1, hashes_nt w w' r h.2]
end
mutual
theorem nt_nk : ∀ (d : D) (k : NestedKey), nkOf d = some k → ntK k = true
  | .non, _, h => by cases h; rfl
  | .bl _, _, h => by cases h; rfl
  | .int _, _, h => by cases h; rfl
  | .tup l, k, h => by
    have h : (nkOfL l).map NestedKey.tup = some k := h
    cases e : nkOfL l with
    | none => rw [e] at h; cases h
    | some ks => rw [e] at h; cases h; exact nt_nkL l ks e
  | .str _, _, h => by cases h
  | .lst _, _, h => by cases h
  | .dic _ _, _, h => by cases h
  | .obj _ _ _, _, h => by cases h
  | .raw _, _, h => by cases h
  | .scr _, _, h => by cases h
  | .clo _ _ _ _ _, _, h => by cases h
  | .fnc _ _ _ _, _, h => by cases h
  | .exv _ _ _ _ _, _, h => by cases h
theorem nt_nkL : ∀ (l : List D) (ks : List NestedKey), nkOfL l = some ks → ntKL ks = true
  | [], _, h => by cases h; rfl
  | d :: r, ks, h => by
    have h : (match nkOf d, nkOfL r with | some a, some b => some (a :: b) | _, _ => none) = some ks := h
    cases e1 : nkOf d with
    | none => rw [e1] at h; cases h
    | some a =>
      cases e2 : nkOfL r with
      | none => rw [e1, e2] at h; cases h
      | some b =>
        rw [e1, e2] at h
        cases h
        show (ntK a && ntKL b) = true
        rw [nt_nk d a e1, nt_nkL r b e2]; rfl
end
section
variable {X : Cx} {pins : List (Addr × Obj)} {σ : L2.St} {H F : Hp} {s : Shared}
mutual
theorem nested_is (I : Inv X pins σ H s) (sm : Same F H) : ∀ (d : D) (k : NestedKey) (v : V) (u : Value), nkOf d = some k → Rp X.K F d v → RelV v u → NestedIs s.heap k u
  | .non, k, v, u, h, r, rv => by
    cases h
    cases (show v = .non from r)
    cases (show u = .none from rv)
    exact .none
  | .bl b, k, v, u, h, r, rv => by
    cases h
    cases (show v = .bl b from r)
    cases (show u = .bool b from rv)
    exact .bool rfl
  | .int i, k, v, u, h, r, rv => by
    cases h
    cases (show v = .int i from r)
    obtain ⟨t, rfl⟩ := (show ∃ t, u = .int i t from rv)
    exact .int i t
  | .tup l, k, v, u, h, r, rv => by
    have h : (nkOfL l).map NestedKey.tup = some k := h
    cases e : nkOfL l with
    | none => rw [e] at h; cases h
    | some ks =>
      rw [e] at h
      cases h
      obtain ⟨a, xs, rfl, hs, rl⟩ := r
      cases (show u = .ref a from rv)
      obtain ⟨its, rvs, ⟨o, h1, h2, n, h3⟩, _⟩ := I.tuple (same_t sm hs)
      refine .tup h1 h2 h3 ?_
      exact nested_all I sm l ks xs its e rl rvs
  | .str _, _, _, _, h, _, _ => by cases h
  | .lst _, _, _, _, h, _, _ => by cases h
  | .dic _ _, _, _, _, h, _, _ => by cases h
  | .obj _ _ _, _, _, _, h, _, _ => by cases h
  | .raw _, _, _, _, h, _, _ => by cases h
  | .scr _, _, _, _, h, _, _ => by cases h
  | .clo _ _ _ _ _, _, _, _, h, _, _ => by cases h
  | .fnc _ _ _ _, _, _, _, h, _, _ => by cases h
  | .exv _ _ _ _ _, _, _, _, h, _, _ => by cases h
theorem nested_all (I : Inv X pins σ H s) (sm : Same F H) : ∀ (l : List D) (ks : List NestedKey) (xs : List V) (us : List Value), nkOfL l = some ks → RpL X.K F l xs → Vals xs us → NestedAll s.heap ks us
  | [], _, xs, us, h, r, rv => by
    cases h
    cases (show xs = [] from r)
    cases rv
    exact .nil
  | d :: l, ks, xs, us, h, r, rv => by
    have h : (match nkOf d, nkOfL l with | some a, some b => some (a :: b) | _, _ => none) = some ks := h
    obtain ⟨x, r', rfl, r1, r2⟩ := r
    cases rv with
    | cons q1 q2 =>
      cases e1 : nkOf d with
      | none => rw [e1] at h; cases h
      | some a =>
        cases e2 : nkOfL l with
        | none => rw [e1, e2] at h; cases h
        | some b =>
          rw [e1, e2] at h
          cases h
          exact .cons (nested_is I sm d a x _ e1 r1 q1) (nested_all I sm l b _ _ e2 r2 q2)
end
theorem dk_is (I : Inv X pins σ H s) (sm : Same F H) {p : Addr} {kvs : List (D × D)} {xs : KEnts} (e : H p = some (dkO p xs)) (r : DRel X.K F kvs xs) :
    (p == sysModules) = false ∧ s.heap.DictOfH (nestedKind X.prog X.w) p xs := by
  obtain ⟨⟨h1, h2, h3, o, es, ep, h4, h5, h6, h7⟩, _, _⟩ := (show ObjOk X.prog X.w H s.heap p (dkO p xs) from I.hok p _ e)
  refine ⟨h1, o, es, ep, h4, h5, h6, h7 X.w, ?_, h3⟩
  have all : ∀ {kvs : List (D × D)} {xs : KEnts}, DRel X.K F kvs xs → ∀ x ∈ xs, (nestedKind X.prog X.w).is s.heap x.1 x.2.1 := by
    intro kvs
    induction kvs with
    | nil => intro xs r x hx; rw [show xs = [] from r] at hx; cases hx
    | cons p r ih =>
      intro xs q x hx
      obtain ⟨y, ys, v, rfl, e2, e3, e4, e5, e6, e7⟩ := q
      rcases List.mem_cons.mp hx with rfl | hx
      · exact ⟨nested_is I sm p.1 _ _ _ e2 e4 rfl, e3⟩
      · exact ih e7 x hx
  exact all r
theorem dk_ok {P : Program} {w : World} {H : Hp} {h : Heap} {p : Addr} {xs : KEnts} (hx : dkP p xs h) : ObjOk P w H h p (dkO p xs) := by
  obtain ⟨h1, h2, h3, o, es, ep, h4, h5⟩ := id hx
  refine ⟨hx, ⟨o, h4⟩, ?_⟩
  rintro g1 g2 ⟨h1, h2, h3, o, es, ep, h4, h5⟩ k
  exact ⟨h1, h2, h3, o, es, ep, k _ h4, h5⟩
end
def sameK (k : NestedKey) (p : D × D) : Bool := decide (nkOf p.1 = some k)
def hasK (kvs : List (D × D)) (k : NestedKey) : Bool := kvs.any (sameK k)
def lookK (kvs : List (D × D)) (k : NestedKey) : Option D := (kvs.find? (sameK k)).map (·.2)
def putD (kvs : List (D × D)) (d v : D) (k : NestedKey) : List (D × D) := if hasK kvs k = true then kvs.map fun p => if sameK k p = true then (p.1, v) else p else kvs ++ [(d, v)]
theorem putD_len (kvs : List (D × D)) (d v : D) (k : NestedKey) : (putD kvs d v k).length ≤ kvs.length + 1 := by
  unfold putD; split <;> simp
section
variable {K : PySem.W.Frag} {F : Hp}
theorem drel_len : ∀ {kvs : List (D × D)} {xs : KEnts}, DRel K F kvs xs → kvs.length = xs.length
  | [], xs, h => by rw [show xs = [] from h]; rfl
  | p :: r, _, ⟨x, ys, v, e, _, _, _, _, _, h⟩ => by rw [e, List.length_cons, List.length_cons, drel_len h]
theorem drel_key : ∀ {kvs : List (D × D)} {xs : KEnts} (k : NestedKey), DRel K F kvs xs → (atKey xs k).isSome = hasK kvs k
  | [], xs, k, h => by rw [show xs = [] from h]; rfl
  | p :: r, _, k, ⟨x, ys, v, e, e1, _, _, _, _, h⟩ => by
    have ih := drel_key k h
    unfold atKey at ih ⊢
    unfold hasK at ih ⊢
    rw [e, List.find?_cons, List.any_cons, ← ih]
    unfold sameK
    rw [e1]
    by_cases c : x.1 = k
    · simp [c]
    · simp [c]
theorem drel_look : ∀ {kvs : List (D × D)} {xs : KEnts} (k : NestedKey) {d : D}, DRel K F kvs xs → lookK kvs k = some d → ∃ y, atKey xs k = some y ∧ ∃ v, Rp K F d v ∧ RelV v y.2
  | [], xs, k, d, h, e => by cases e
  | p :: r, _, k, d, ⟨x, ys, v, e, e1, _, _, e4, e5, h⟩, hd => by
    unfold lookK at hd
    unfold atKey
    rw [e, List.find?_cons]
    rw [List.find?_cons] at hd
    have sk : sameK k p = decide (x.1 = k) := by unfold sameK; rw [e1]; simp
    rw [sk] at hd
    by_cases c : x.1 = k
    · rw [decide_eq_true c] at hd ⊢
      cases hd
      exact ⟨_, rfl, v, e4, e5⟩
    · rw [decide_eq_false c] at hd ⊢
      have := drel_look (kvs := r) (xs := ys) k (d := d) h hd
      exact this
theorem drel_app : ∀ {kvs ls : List (D × D)} {xs ys : KEnts}, DRel K F kvs xs → DRel K F ls ys → DRel K F (kvs ++ ls) (xs ++ ys)
  | [], _, _, _, h, q => by rw [show _ = [] from h]; exact q
  | p :: r, _, _, _, ⟨x, zs, v, e, e1, e2, e3, e4, e5, h⟩, q => by rw [e]; exact ⟨x, _, v, rfl, e1, e2, e3, e4, e5, drel_app h q⟩
theorem drel_set {v : D} {k : NestedKey} {w : V} {u : Value} (hv : Rp K F v w) (hu : RelV w u) : ∀ {kvs : List (D × D)} {xs : KEnts}, DRel K F kvs xs → DRel K F (kvs.map fun p => if sameK k p = true then (p.1, v) else p) (xs.map (putAt k u))
  | [], _, h => by rw [show _ = [] from h]; exact rfl
  | p :: r, _, ⟨x, zs, w', e, e1, e2, e3, e4, e5, h⟩ => by
    have sk : sameK k p = decide (x.1 = k) := by unfold sameK; rw [e1]; simp
    rw [e, List.map_cons, List.map_cons, sk]
    unfold putAt
    by_cases c : x.1 = k
    · rw [if_pos c, decide_eq_true c]
      exact ⟨_, _, w, rfl, e1, e2, e3, hv, hu, drel_set hv hu h⟩
    · rw [if_neg c, decide_eq_false c]
      exact ⟨_, _, w', rfl, e1, e2, e3, e4, e5, drel_set hv hu h⟩
theorem drel_put {kvs : List (D × D)} {xs : KEnts} {d v : D} {k : NestedKey} {a : Addr} {w : V} {u : Value} (h : DRel K F kvs xs) (hk : nkOf d = some k) (hd : k.depth ≤ 8) (rd : Rp K F d (.ref a)) (hv : Rp K F v w) (hu : RelV w u) : DRel K F (putD kvs d v k) (storedH xs k a u) := by
  unfold putD storedH
  rw [drel_key k h]
  cases hasK kvs k with
  | true => rw [if_pos rfl, if_pos rfl]; exact drel_set hv hu h
  | false => rw [if_neg (by simp), if_neg (by simp)]; exact drel_app h ⟨_, _, w, rfl, hk, hd, rd, hv, hu, rfl⟩
end
def asDct (d : D) (M : Mm) (f : Addr → List (D × D) → Prop) : Prop := match d with
  | .raw (.ref a) => match M a with | some (.dct kvs) => f a kvs | _ => False
  | _ => False
theorem asDct_of {d : D} {M : Mm} {f : Addr → List (D × D) → Prop} (h : asDct d M f) : ∃ a kvs, d = .raw (.ref a) ∧ M a = some (.dct kvs) ∧ f a kvs := by
  unfold asDct at h
  split at h
  · rename_i a
    split at h
    · rename_i kvs e
      exact ⟨a, kvs, rfl, e, h⟩
    · exact h.elim
  · exact h.elim
def asKey (d : D) (f : NestedKey → Prop) : Prop := match d with
  | .tup l => match nkOf (.tup l) with | some k => k.depth ≤ 8 ∧ f k | none => False
  | _ => False
theorem asKey_of {d : D} {f : NestedKey → Prop} (h : asKey d f) : ∃ l k, d = .tup l ∧ nkOf d = some k ∧ k.depth ≤ 8 ∧ f k := by
  unfold asKey at h
  split at h
  · rename_i l
    split at h
    · rename_i k e
      exact ⟨l, k, rfl, e, h⟩
    · exact h.elim
  · exact h.elim
section
variable {K : PySem.W.Frag} {g : Gh} {σ : L2.St} {H : Hp} {ρ : Rho} {M : Mm} {F : Hp} {O : Own} {p : Addr} {o : HO} {mo mo' : Mo}
theorem Ab.newMo (A : Ab K g σ H ρ M F O) (h : H p = none) (hm : MoOk K F (upd H p o) (fun b => if b = p then some (.obj p) else O b) p mo) : Ab K g σ (upd H p o) ρ (updM M p mo) F (fun b => if b = p then some (.obj p) else O b) := by
  have A1 := A.laid (o := o) h
  have hO := A.o0 h
  have keep : ∀ b u, O b = some u → (if b = p then some (Ow.obj p) else O b) = some u := fun b u e => by rw [if_neg (fun z => by rw [z, hO] at e; cases e)]; exact e
  exact { sub := A1.sub, ext0 := A1.ext0, new := A1.new, frm := A1.frm, thr := A1.thr
          liv := fun b u e => by
            by_cases z : b = p
            · subst z; exact ⟨⟨_, upd_same⟩, A.f0 h, .inr (A.g0 h)⟩
            · rw [if_neg z] at e; exact A1.liv b u e
          slo := fun b u e n => by
            by_cases z : b = p
            · rw [if_pos z] at e; exact absurd (Option.some.inj e).symm (n p)
            · rw [if_neg z] at e; exact A1.slo b u e n
          tm := fun q l e => by
            obtain ⟨xs, e1, e2, e3⟩ := A1.tm q l e
            exact ⟨xs, e1, e2, keep q _ e3⟩
          mu := fun b m e => by
            by_cases z : b = p
            · subst z
              have e' : m = mo := (Option.some.inj ((if_pos rfl).symm.trans (show (if b = b then some mo else M b) = some m from e))).symm
              subst e'
              exact hm
            · have e' : M b = some m := by
                have := e
                unfold updM at this
                rw [if_neg z] at this
                exact this
              exact (A1.mu b m e').mono (Same.refl F) fun q u e1 e2 => ⟨e1, keep q _ e2⟩
          len := A1.len
          sl := fun j sv e => by
            obtain ⟨v, e1, r⟩ := A1.sl j sv e
            exact ⟨v, e1, r.mono (Same.refl F) fun q xs e1 e2 => ⟨e1, keep q _ e2⟩⟩ }
theorem Ab.setMo (A : Ab K g σ H ρ M F O) (hM : M p = some mo) (hO : O p = some (.obj p)) (hm : MoOk K F (upd H p o) O p mo') : Ab K g σ (upd H p o) ρ (updM M p mo') F O := by
  obtain ⟨⟨x, hx⟩, hF, hg⟩ := A.liv p _ hO
  have ne : ∀ b u, O b = some u → u ≠ .obj p → b ≠ p := fun b u e n z => by rw [z, hO] at e; exact n (Option.some.inj e).symm
  exact { sub := fun b u e => by rw [upd_ne (fun z => by rw [z, hF] at e; cases e)]; exact A.sub b u e
          ext0 := A.ext0, new := A.new
          frm := fun b u e n => by
            rw [upd_ne]
            · exact A.frm b u e n
            · intro z
              subst z
              rcases hg with y | y
              · exact n y
              · rw [e] at y; cases y
          thr := fun b u e => by
            by_cases z : b = p
            · subst z; exact ⟨_, upd_same⟩
            · rw [upd_ne z]; exact A.thr b u e
          liv := fun b u e => by
            obtain ⟨r1, r2⟩ := A.liv b u e
            refine ⟨?_, r2⟩
            by_cases z : b = p
            · subst z; exact ⟨_, upd_same⟩
            · rw [upd_ne z]; exact r1
          slo := A.slo
          tm := fun q l e => by
            obtain ⟨xs, e1, e2, e3⟩ := A.tm q l e
            exact ⟨xs, by rw [upd_ne (ne q _ e3 (fun z => by cases z))]; exact e1, e2, e3⟩
          mu := fun b m e => by
            by_cases z : b = p
            · subst z
              have e' : m = mo' := (Option.some.inj ((if_pos rfl).symm.trans (show (if b = b then some mo' else M b) = some m from e))).symm
              subst e'
              exact hm
            · have e' : M b = some m := by
                have := e
                unfold updM at this
                rw [if_neg z] at this
                exact this
              exact (A.mu b m e').mono (Same.refl F) fun q u e1 e2 => ⟨by rw [upd_ne (ne q _ e2 (fun y => z (by cases y; rfl)))]; exact e1, e2⟩
          len := A.len
          sl := fun j sv e => by
            obtain ⟨v, e1, r⟩ := A.sl j sv e
            exact ⟨v, e1, r.mono (Same.refl F) fun q xs e1 e2 => ⟨by rw [upd_ne (ne q _ e2 (fun z => by cases z))]; exact e1, e2⟩⟩ }
end
def tNewN : TE := fun _ H Q => ∀ p, H p = none → Q (.ref p) (upd H p (dkO p []))
def rInN (K : PySem.W.Frag) (neg : Bool) : R2 := fun x y H Q => ∃ F p kvs xs d k a, y = .ref p ∧ x = .ref a ∧ Same F H ∧ H p = some (dkO p xs) ∧ DRel K F kvs xs ∧ nkOf d = some k ∧ k.depth ≤ 8 ∧ Rp K F d x ∧ Q (.bl (if neg then !hasK kvs k else hasK kvs k)) H
def rSetN (K : PySem.W.Frag) : TSet := fun y x v H Q => ∃ F p kvs xs d k a dv, y = .ref p ∧ x = .ref a ∧ Same F H ∧ H p = some (dkO p xs) ∧ DRel K F kvs xs ∧ nkOf d = some k ∧ k.depth ≤ 8 ∧ Rp K F d x ∧ Rp K F dv v ∧ kvs.length < 1000000 ∧
  ∀ xs', DRel K F (putD kvs d dv k) xs' → Q (upd H p (dkO p xs'))
section
variable {X : Cx} {W : WX} {a b e : Expr} {pa pb pe : PTE} {pos : Pos}
theorem pe_newN : PE X (.Dict [] [] pos) tNewN := ⟨fun pins s σ H Q I h =>
  wpAny_Dict_empty ⟨.ref s.heap.objs.size, _, I.laid (a := s.heap.objs.size) (o := dkO s.heap.objs.size []) (t' := s.toks) (fun _ _ q => Heap.get?_push_of_some _ q) (Nat.le_refl _)
    (dk_ok ⟨beq_eq_false_iff_ne.mpr (Ne.symm (Nat.ne_of_lt I.big)), fun _ z => (nomatch z), List.nodup_nil, _, #[], 0, Heap.get?_push_size _ rfl, ⟨rfl, rfl, rfl⟩, rfl, fun _ => rfl⟩), rfl, h _ (I.hok.fresh (Nat.le_refl _))⟩⟩
theorem room_n {prog : Program} {w : World} {A : Around} (hu : A.units + 9 < cLine) : (nestedKind prog w).room A.in1 := by
  show A.units + 1 + 8 < cLine
  omega
theorem op_notInN (hu : X.A.units + 9 < cLine) : OpR X (compareOp .NotIn) (rInN X.K true) := by
  intro pins s σ H x y v u Q I rx ry h
  obtain ⟨F, p, kvs, xs, d, k, c, rfl, rfl, sm, e, dr, hk, hd, rd, q⟩ := h
  cases (show v = .ref c from rx)
  cases (show u = .ref p from ry)
  obtain ⟨z1, z2⟩ := dk_is I sm e dr
  refine wpAny_notIn_heap (room_n hu) ⟨nested_is I sm d k _ _ hk rd rfl, hd⟩ z1 z2 ?_
  rw [drel_key k dr]
  exact ⟨.bl (!hasK kvs k), H, I.tok _, rfl, q⟩
theorem set_N (hu : X.A.units + 9 < cLine) : PSet X (rSetN X.K) := by
  intro pins s σ H y x v ov iv u Q I ry rx rv h
  obtain ⟨F, p, kvs, xs, d, k, c, dv, rfl, rfl, sm, e, dr, hk, hd, rd, rdv, hl, q⟩ := h
  cases (show iv = .ref c from rx)
  cases (show ov = .ref p from ry)
  obtain ⟨z1, z2⟩ := dk_is I sm e dr
  have hz : xs.length ≤ sizeLine := by rw [← drel_len dr]; exact Nat.le_trans (Nat.le_of_lt hl) (by decide)
  refine wpAny_setItem_heap (hsz := hz) (room_n hu) ⟨nested_is I sm d k _ _ hk rd rfl, hd⟩ z2 fun h' dd' hs => ?_
  obtain ⟨o, es, ep, hq, h2, h3, h4, h6, h5⟩ := dd'
  have dr' := drel_put dr hk hd rd rdv rv
  refine ⟨upd H p (dkO p (storedH xs k c u)), d_write I (by rw [e]; exact True.intro) hs ⟨o, hq⟩ (dk_ok ⟨z1, ?_, h5, o, es, ep, hq, h2, h3, fun w' => ?_⟩), q _ dr'⟩
  · have all : ∀ {kvs : List (D × D)} {xs : KEnts}, DRel X.K F kvs xs → ∀ x ∈ xs, ntK x.1 = true := by
      intro kvs
      induction kvs with
      | nil => intro xs r x hx; rw [show xs = [] from r] at hx; cases hx
      | cons p r ih =>
        intro xs q x hx
        obtain ⟨y, ys, v, rfl, e2, e3, e4, e5, e6, e7⟩ := q
        rcases List.mem_cons.mp hx with rfl | hx
        · exact nt_nk _ _ e2
        · exact ih e7 x hx
    exact all dr'
  · have all : ∀ {kvs : List (D × D)} {xs : KEnts}, DRel X.K F kvs xs → ∀ x ∈ xs, ntK x.1 = true := by
      intro kvs
      induction kvs with
      | nil => intro xs r x hx; rw [show xs = [] from r] at hx; cases hx
      | cons p r ih =>
        intro xs q x hx
        obtain ⟨y, ys, v, rfl, e2, e3, e4, e5, e6, e7⟩ := q
        rcases List.mem_cons.mp hx with rfl | hx
        · exact nt_nk _ _ e2
        · exact ih e7 x hx
    rw [h4]
    refine List.map_congr_left fun y hy => ?_
    show (⟨y.1.hash X.w, .ref y.2.1, y.2.2⟩ : DictEntry) = _
    rw [hash_nt X.w w' _ (all dr' y hy)]
def dNewN : PTE := fun _ _ M q => ∀ a, M a = none → q (.raw (.ref a)) (updM M a (.dct []))
theorem de_newN : DE X W (.Dict [] [] pos) dNewN := pe_imp pe_newN fun σ H Q ⟨g, ρ, M, F, O, q, w, A, p, hw, k⟩ => fun c hc => by
  have A2 := A.newMo (o := dkO c []) (mo := .dct []) hc ⟨[], upd_same, if_pos rfl, Nat.zero_le _, rfl⟩
  exact k (.ref c) _ F _ _ (.raw (.ref c)) A2 (Same.refl F) rfl (p c (A.m0 hc))
def dInN (neg : Bool) (pa pb : PTE) : PTE := fun w ρ M q => pa w ρ M fun x M1 => pb w ρ M1 fun y M2 => asDct y M2 fun _ kvs => asKey x fun k => q (.bl (if neg then !hasK kvs k else hasK kvs k)) M2
theorem Vw.tupR {K : PySem.W.Frag} {σ : L2.St} {ρ : Rho} {F : Hp} {l : List D} {v : V} (h : Vw K σ ρ F (.tup l) v) : Rp K F (.tup l) v := by
  rcases h with h | ⟨_, _, _, _, _, _, h⟩
  · exact h
  · cases h
theorem Vw.rawR {K : PySem.W.Frag} {σ : L2.St} {ρ : Rho} {F : Hp} {u v : V} (h : Vw K σ ρ F (.raw u) v) : v = u := by
  rcases h with h | ⟨_, _, _, _, _, _, h⟩
  · exact h
  · cases h
theorem inN_run {neg : Bool} {σ : L2.St} {H : Hp} {Q : VK} (h : real X.K W (dInN neg pa pb) σ H Q) : tOp (rInN X.K neg) (realO X.K W pa) (realO X.K W pb) σ H Q := by
  obtain ⟨g, ρ, M, F, O, q, w, A, p, hw, k⟩ := h
  refine ⟨g, ρ, M, F, O, _, w, A, p, hw, fun v H1 F1 O1 M1 d A1 s1 r1 q1 => ⟨g, ρ, M1, F1, O1, _, w, A1, q1, hw.mono s1, fun u H2 F2 O2 M2 y A2 s2 r2 q2 => ?_⟩⟩
  obtain ⟨c, kvs, rfl, hM, q3⟩ := asDct_of q2
  obtain ⟨l, nk, rfl, hk, hd, q4⟩ := asKey_of q3
  obtain ⟨xs, e1, e2, e3, e4⟩ := A2.mu c _ hM
  have rt := (r1.mono s2).tupR
  obtain ⟨b, ys, eb, _⟩ := id rt
  exact ⟨F2, c, kvs, xs, .tup l, nk, b, r2.rawR, eb, A2.sub, e1, e4, hk, hd, rt, k _ H2 F2 O2 M2 (.bl (if neg then !hasK kvs nk else hasK kvs nk)) A2 (s1.trans s2) rfl q4⟩
theorem dt_notinN (hu : X.A.units + 9 < cLine) (ha : DO X W a pa) (hb : DO X W b pb) (hm : behindInMarks .NotIn b = false := by rfl) : DT X W (.Compare a [.NotIn] [b] pos) (dTst (dInN true pa pb)) :=
  pt_imp (pt_cmpR (op_notInN hu) ha hb hm) fun σ H Q h => tst_run (t := tOp (rInN X.K true) (realO X.K W pa) (realO X.K W pb)) (fun _ _ _ h => inN_run h) h
def dGetN (pb pa : PTE) : PTE := fun w ρ M q => pb w ρ M fun y M1 => pa w ρ M1 fun x M2 => asDct y M2 fun _ kvs => asKey x fun k => ∃ z, lookK kvs k = some z ∧ q z M2
def dPutN (pv pb pa : PTE) : PTS := fun w P ρ M => pv w ρ M fun v M1 => pb w ρ M1 fun y M2 => pa w ρ M2 fun x M3 => asDct y M3 fun c kvs => asKey x fun k => kvs.length < 1000000 ∧ P.nx ρ (updM M3 c (.dct (putD kvs x v k)))
theorem ds_putN {pt : Pos} (hu : X.A.units + 9 < cLine) (he : DE X W e pe) (hb : DO X W b pb) (ha : DO X W a pa) (hs : swapsWithSole [.Subscript b a pt] e pos.line X.env = pure false := by rfl) (hw : swappedStores [.Subscript b a pt] e X.env = pure none := by rfl)
    (hA : ∀ v, assign (.Subscript b a pt) X.env v = (do
      let ov ← holding [v] (eval b X.env)
      let iv ← holding [v, ov] (eval a X.env)
      standAt pt
      holding [v, ov, iv] (setItem ov iv v)
      release [v, ov, iv] []) := by intro _; rfl) : DS X W (.Assign [.Subscript b a pt] e pos) (dPutN pe pb pa) := by
  refine ps_imp (ps_asg he (pg_sub hb ha (set_N hu) hA) hs hw) fun D σ H ⟨g, ρ, M, F, O, P, w, A, h, hw, k1, k2, k3, k4⟩ => ?_
  refine ⟨g, ρ, M, F, O, _, w, A, h, hw, fun v H1 F1 O1 M1 dv A1 s1 r1 q1 => ⟨g, ρ, M1, F1, O1, _, w, A1, q1, hw.mono s1, fun y' H2 F2 O2 M2 y A2 s2 r2 q2 => ⟨g, ρ, M2, F2, O2, _, w, A2, q2, (hw.mono s1).mono s2, fun x' H3 F3 O3 M3 x A3 s3 r3 q3 => ?_⟩⟩⟩
  obtain ⟨c, kvs, rfl, hM, q3⟩ := asDct_of q3
  obtain ⟨l, nk, rfl, hk, hd, hl, q4⟩ := asKey_of q3
  obtain ⟨xs, e1, e2, e3, e4⟩ := A3.mu c _ hM
  have rt := r3.tupR
  obtain ⟨b', ys, eb, _⟩ := id rt
  refine ⟨F3, c, kvs, xs, .tup l, nk, b', dv, (r2.mono s3).rawR, eb, A3.sub, e1, e4, hk, hd, rt, Rp.mono (s2.trans s3) _ _ r1, hl, fun xs' dr' => ?_⟩
  have A4 := A3.setMo (o := dkO c xs') (mo' := .dct (putD kvs (.tup l) dv nk)) hM e2 ⟨xs', upd_same, e2, by have := putD_len kvs (.tup l) dv nk; omega, dr'⟩
  exact k1 σ _ ρ _ F3 O3 A4 ((s1.trans s2).trans s3) q4
end
theorem hu9 {A : Around} {k : Nat} (hr : Room k A) : A.units + 9 < cLine := by have := hr.units; omega
end Px
set_option Elab.async false
set_option linter.all false
set_option maxRecDepth 100000
namespace Px
open PySem PySem.Spec PyProof.Rows L2
abbrev PSpL := List D → Mm → (List D → Mm → Prop) → PX → Prop
def toSpL (K : PySem.W.Frag) (n : Nat) (sp : PSpL) : Sp := fun vs H Q E => ∃ g F M O ds q e, vs.length = n ∧ Wd K g H M F O ∧ RpL K F ds vs ∧ sp ds M q e ∧
  (∀ a xs H' F' O' M' ls, Aft K H F O H' M' F' O' → H' a = some (.lst xs) → RpL K F' ls xs → F' a = none → O' a = none → H a = none → q ls M' → Q (.ref a) H') ∧
  (∀ cls dd H' F' O' M' fs, Aft K H F O H' M' F' O' → ExOk K F' dd fs → e cls fs M' → E cls dd H')
theorem toSpL_len {K : PySem.W.Frag} {n : Nat} {sp : PSpL} {vs : List V} {H : Hp} {Q : VK} {E : XK} (h : toSpL K n sp vs H Q E) : vs.length = n := by
  obtain ⟨_, _, _, _, _, _, _, e, _⟩ := h
  exact e
def ShowsL (sp : PSpL) (N : Nat) (p : PTS) : Prop := ∀ ds M q e, sp ds M q e →
  p (fun cls fs _ M' => ∃ M2, MLe M2 M' ∧ e cls fs M2) { nx := fun _ _ => False, rt := fun _ _ => False, rl := fun l M' => ∃ M2, MLe M2 M' ∧ q l M2 } (startR N ds) M
theorem objs_none {O : Own} {a : Addr} (h : O a = none) : objs O a = none := by
  unfold objs
  rw [h]
section
variable {P : Program} {w : World} {K : PySem.W.Frag} {mg : Str → Option Value} {base : Heap} {k : Nat} {f : Addr} {fd : FuncData} {ps N : List Str}
theorem Fun.pokL {x qual : Str} {stm : Stmt} {n : Nat} {sp : PSpL} {p : PTS} (Fn : L2.Fun K x qual stm f fd) (S : FnScope N ps (defScope stm)) (hn : ps.length = n) (hs : ShowsL sp N.length p)
    (hbody : ∀ (cdv : Value) (A : Around) (outer : List Env) (s : Shared) (H : Hp) (E : XK), Room k (A.deeper (envOfC qual (defScope stm) s.heap.objs.size f cdv)) → A.guards = some [] →
      DSs (cxOf (L2.CX P w) P w K mg base N qual (defScope stm) f cdv A outer s H E) (WE E) (defBody stm) p) :
    FnG P w K mg base (k + 1) f fd ps (toSpL K n sp) := by
  refine Fun.gok Fn S (fun vs H Q E h => by rw [toSpL_len h, hn]) fun cdv A outer s H vs Q E hr hG hsp => ⟨_, hbody cdv A outer s H E hr hG, ?_⟩
  obtain ⟨g, F, M, O, ds, q, e, _, A0, rp, hsp, hQ, hE⟩ := hsp
  refine ⟨_, _, _, _, _, _, _, A0.enter (N := N) rp, hs ds M q e hsp, ?_, ?_, ?_, ?_, ?_, ?_⟩
  · intro cls dd σ' H' ρ' M' F' O' fs A2 s2 x2 ⟨M2, h1, h2⟩
    exact hE cls dd H' F' _ M2 fs (A2.leave h1) x2 h2
  · intro σ' H' ρ' M' F' O' A2 s2 z; exact z.elim
  · intro v σ' H' ρ' M' F' O' d A2 s2 r2 z; exact z.elim
  · intro σ' H' ρ' M' F' O' A2 s2 z; exact z.elim
  · intro σ' H' ρ' M' F' O' A2 s2 z; exact z.elim
  · intro a xs σ' H' ρ' M' F' O' ls A2 s2 e1 e2 e3 e4 e5 ⟨M2, h1, h2⟩
    exact hQ a xs H' F' _ M2 ls (A2.leave h1) e1 e2 e3 (objs_none e4) e5 h2
end
section
variable {X : Cx} {W : WX} {k n : Nat} {f : Addr} {fd : FuncData} {ps ks : List Str} {sp : PSpL} {x : Str} {p pos : Pos} {e : Expr} {es : List Expr} {pl : PTA} {ds : List Value} {dd : List D} {dvs : List V} {kws : List Keyword} {ix : List Nat} {i : Nat}
def dCallL (sp : PSpL) (pl : PTA) : PTA := fun w ρ M q => pl w ρ M fun ds M1 => sp ds M1 q fun cls fs M2 => w cls fs ρ M2
def dCallLK (sp : PSpL) (ix : List Nat) (pl : PTA) : PTA := fun w ρ M q => pl w ρ M fun ds M1 => sp (pick ix ds) M1 q fun cls fs M2 => w cls fs ρ M2
theorem call_readingL {K : PySem.W.Frag} {g : Gh} {σ : L2.St} {H : Hp} {ρ : Rho} {M : Mm} {F : Hp} {O : Own} {w : PWi} {q : List D → Mm → Prop} {ds : List D} {vs : List V} {Q : VK} (A : Ab K g σ H ρ M F O) (hw : WOk K g F W w)
    (r : RpL K F ds vs) (hl : ds.length = n) (h : sp ds M q fun cls fs M2 => w cls fs ρ M2)
    (k : ∀ a xs H' F' O' M' ls, Ab K g σ H' ρ M' F' O' → Same F F' → H' a = some (.lst xs) → RpL K F' ls xs → F' a = none → O' a = none → g.H0 a = none → q ls M' → Q (.ref a) H') :
    toSpL K n sp vs H Q fun cls d H' => W cls d σ H' := by
  refine ⟨g, F, M, O, ds, q, _, by rw [← hl, r.len], A.toWd, r, h, fun a xs H' F' O' M' ls B e1 e2 e3 e4 e5 hq => ?_, fun cls dd H' F' O' M' fs B x hq => ?_⟩
  · obtain ⟨O2, A2, s, hO⟩ := A.after2 B
    exact k a xs H' F' O2 M' ls A2 s e1 e2 e3 (by rw [hO a (A.o0 e5)]; exact e4) (A.g0 e5) hq
  · obtain ⟨O2, A2, s⟩ := A.after B
    exact hw cls dd σ H' ρ M' F' O2 fs A2 s x hq
theorem dl_callL (Fg : FnG X.prog X.w X.K X.mg X.base k f fd ps (toSpL X.K n sp)) (hn : ps.length = n) (hlen : ∀ ds M q e, sp ds M q e → ds.length = n) (hr : Room k X.A) (hG : X.A.guards = some []) (hg : Gl X x) (hm : X.mg x = some (.ref f))
    (hk : PySem.W.keepIn X.K (.ref f) = true) (hb : Binds X.K fd ps []) (tk : Takes X W) (ha : DA X W (e :: es) pl) (hdb : (x == ("__debug__" : Str)) = false := by decide)
    (he : starEach (e :: es) X.env = (false, eval e X.env) :: starEach es X.env := by rfl) (hpl : (backTo pos (starEach es X.env)).any (·.1) = false := by rfl) : DL X W (.Call (.Name x p) (e :: es) [] pos) (dCallL sp pl) := by
  refine ⟨fun pins s σ H Q I ⟨g, ρ, M, F, O, q, w, A, pr, hw, k⟩ => ?_⟩
  refine wpAny_Call_Name_kw (ld_glob I hg hm ?_ hdb)
  refine PySem.W.callWith_K (h₀ := X.base) I.ok.mod.kin hk (thn (ha.run pos pins s σ H (fun vs H1 => toSpL X.K n sp vs H1 Q fun cls d H' => W cls d σ H') I ?_) fun us s1 hh => ?_) he hpl
  · exact ⟨g, ρ, M, F, O, _, w, A, pr, hw, fun vs H1 F1 O1 M1 d1 A1 s1 r1 q1 => call_readingL A1 (hw.mono s1) r1 (hlen _ _ _ _ q1) q1 fun a xs H2 F2 O2 M2 ls A2 s2 e1 e2 e3 e4 e5 q2 => k a xs H2 F2 O2 M2 ls A2 (s1.trans s2) e1 e2 e3 e4 e5 q2⟩
  · obtain ⟨vs, H1, I1, r, q1⟩ := hh
    refine ⟨I1.kIn, ?_⟩
    have := run_g (dvs := []) Fg hr hG hb .nil tk I1 r (by rw [List.append_nil]; exact q1)
    exact this
theorem dl_callLK (Fg : FnG X.prog X.w X.K X.mg X.base k f fd ps (toSpL X.K n sp)) (hn : ps.length = n) (hlen : ∀ ds M q e, sp ds M q e → ds.length = n) (hr : Room k X.A) (hG : X.A.guards = some []) (hg : Gl X x) (hm : X.mg x = some (.ref f))
    (hk : PySem.W.keepIn X.K (.ref f) = true) (hb : KwB X.K fd ps ks ix) (tk : Takes X W) (ha : DK X W kws pl)
    (hall : (backToKw pos (keywordEach kws X.env)).all (·.1.isSome) = true := by rfl) (hks : (backToKw pos (keywordEach kws X.env)).filterMap (·.1) = ks := by rfl) (hdb : (x == ("__debug__" : Str)) = false := by decide)
    (hpl : ((backTo pos (starEach [] X.env)).any (·.1) || (backToKw pos (keywordEach kws X.env)).any (·.1.isNone)) = false := by rfl) : DL X W (.Call (.Name x p) [] kws pos) (dCallLK sp ix pl) := by
  refine ⟨fun pins s σ H Q I ⟨g, ρ, M, F, O, q, w, A, pr, hw, kk⟩ => ?_⟩
  refine wpAny_Call_Name_kw (ld_glob I hg hm ?_ hdb)
  refine PySem.W.callWith_KW0 (h₀ := X.base) I.ok.mod.kin hk hall (thn (ha.run pos pins s σ H (fun vs H1 => toSpL X.K n sp (pick ix vs) H1 Q fun cls d H' => W cls d σ H') I ?_) fun us s1 hh => ?_) hpl
  · exact ⟨g, ρ, M, F, O, _, w, A, pr, hw, fun vs H1 F1 O1 M1 d1 A1 s1 r1 q1 => call_readingL A1 (hw.mono s1) (rpl_pick r1 ix) (hlen _ _ _ _ q1) q1 fun a xs H2 F2 O2 M2 ls A2 s2 e1 e2 e3 e4 e5 q2 => kk a xs H2 F2 O2 M2 ls A2 (s1.trans s2) e1 e2 e3 e4 e5 q2⟩
  · obtain ⟨vs, H1, I1, r, q1⟩ := hh
    refine ⟨I1.kIn, ?_⟩
    rw [hks]
    have r2 := vals_pick r ix
    have hl : (pick ix us).length = ps.length := by rw [← r2.length]; exact Fg.len _ _ _ _ q1
    refine wpAny_call (codeAny_mono (Fg.run X.A X.stack s1 H1 ⟨[], ks.zip us⟩ (pick ix us) (pick ix vs) Q _ hr hG I1.env0 (hb s1 us I1.kIn hl) r2 q1) fun r s' hq => ?_)
    cases r with
    | error e => exact tk e s' (XE.of_call I1 (fun _ _ _ h => h) hq)
    | ok fl =>
      cases fl with
      | ret u => exact I1.after hq
      | next => exact hq.elim
      | brk => exact hq.elim
      | cont => exact hq.elim
def dRetL (pl : PTA) : PTS := fun w P ρ M => pl w ρ M P.rl
def dRetOwn (i : Nat) : PTS := fun _ P ρ M => match gt ρ i with | some (.own l) => P.rl l M | _ => False
theorem Ab.drop {K : PySem.W.Frag} {g : Gh} {σ : L2.St} {H : Hp} {ρ : Rho} {M : Mm} {F : Hp} {O : Own} {ds : List D} (A : Ab K g σ H ρ M F O) (hi : gt ρ i = some (.own ds)) :
    ∃ l xs O', σ[i]? = some (some (.ref l)) ∧ H l = some (.lst xs) ∧ RpL K F ds xs ∧ F l = none ∧ O' l = none ∧ g.H0 l = none ∧ Ab K g σ H (un ρ i) M F O' := by
  obtain ⟨v, e1, l, xs, rfl, e3, e4, e5⟩ := A.sl i _ hi
  obtain ⟨_, hFl, _⟩ := A.liv l _ e5
  have h0l : g.H0 l = none := A.slo l _ e5 (fun _ z => by cases z)
  refine ⟨l, xs, fun b => if b = l then none else O b, e1, e3, e4, hFl, if_pos rfl, h0l, ?_⟩
  have keep : ∀ b u, O b = some u → u ≠ .slot i → (if b = l then none else O b) = some u := fun b u e n => by
    rw [if_neg]
    · exact e
    · intro z
      rw [z, e5] at e; exact n (Option.some.inj e).symm
  exact { sub := A.sub, ext0 := A.ext0, new := A.new, frm := A.frm, thr := A.thr
          liv := fun b u e => by
            by_cases z : b = l
            · rw [if_pos z] at e; cases e
            · rw [if_neg z] at e; exact A.liv b u e
          slo := fun b u e n => by
            by_cases z : b = l
            · rw [if_pos z] at e; cases e
            · rw [if_neg z] at e; exact A.slo b u e n
          tm := fun q l2 e => by
            obtain ⟨ys, e1, e2, e3⟩ := A.tm q l2 e
            exact ⟨ys, e1, e2, keep q _ e3 (fun z => by cases z)⟩
          mu := fun b m e => (A.mu b m e).mono (Same.refl F) fun q u e1 e2 => ⟨e1, keep q _ e2 (fun z => by cases z)⟩
          len := by rw [un_len]; exact A.len
          sl := fun j sv e => by
            by_cases z : j = i
            · subst z; rw [gt_un_self] at e; cases e
            · rw [gt_un_ne z] at e
              obtain ⟨v, e1, r⟩ := A.sl j sv e
              exact ⟨v, e1, r.mono (Same.refl F) fun q xs e1 e2 => ⟨e1, keep q _ e2 (fun y => z (by cases y; rfl))⟩⟩ }
theorem ds_retOwn (i : Nat) {x : Str} {p2 : Pos} (hN : X.N[i]? = some x := by rfl) (hv : Vis X.env.scope x := by first | exact Or.inl rfl | exact Or.inr (Or.inl rfl) | exact Or.inr (Or.inr rfl)) (hd : (x == ("__debug__" : Str)) = false := by decide)
    (hcd : (x == ("__classdict__" : Str)) = false := by decide) : DS X W (.Return (some (.Name x p2)) pos) (dRetOwn i) := ps_imp (ps_ret (pv i hN hv hd hcd)) fun D σ H ⟨g, ρ, M, F, O, P, w, A, h, hw, k1, k2, k3, k4, k5⟩ => by
  unfold dRetOwn at h
  split at h
  · rename_i ls e
    obtain ⟨l, xs, O', e1, e2, e3, e4, e5, e6, A'⟩ := A.drop e
    exact ⟨.ref l, e1, k5 l xs σ H _ M F O' ls A' (Same.refl F) e2 e3 e4 e5 e6 h⟩
  · exact h.elim
end
end Px
set_option Elab.async false
set_option linter.all false
set_option maxRecDepth 100000
namespace Px
open PySem PySem.Spec PyProof.Rows L2
theorem gcd_pos' {a b : Int} (h : 0 < b) : 0 < (Int.gcd a b : Int) := by
  have := Int.gcd_pos_iff (a := a) (b := b) |>.mpr (.inr (by omega))
  omega
def lc (a b : Int) : Int := a / g0 a b * b
theorem lc_l {a b : Int} : a ∣ lc a b := by
  unfold lc g0
  obtain ⟨b', eb⟩ := Int.gcd_dvd_right (a := a) (b := b)
  by_cases hz : (Int.gcd a b : Int) = 0
  · rw [hz] at eb
    rw [eb]; simp
  · have e : a / (Int.gcd a b : Int) * b = a * b' := by
      have e2 := Int.ediv_mul_cancel (Int.gcd_dvd_left (a := a) (b := b))
      generalize (Int.gcd a b : Int) = g at *
      rw [eb, ← Int.mul_assoc, e2]
    rw [e]
    exact Int.dvd_mul_right ..
theorem lc_r {a b : Int} : b ∣ lc a b := Int.dvd_mul_left ..
theorem lc_pos {a b : Int} (ha : 0 < a) (hb : 0 < b) : 0 < lc a b := by
  unfold lc g0
  refine Int.mul_pos ?_ hb
  have gp := gcd_pos' (a := a) hb
  have e := Int.ediv_mul_cancel (Int.gcd_dvd_left (a := a) (b := b))
  by_cases c : 0 < a / (Int.gcd a b : Int)
  · exact c
  · have : a / (Int.gcd a b : Int) * (Int.gcd a b : Int) ≤ 0 := Int.mul_nonpos_of_nonpos_of_nonneg (by omega) (by omega)
    omega
theorem lc_dvd {a b m : Int} (ha : 0 < a) (hb : 0 < b) (h1 : a ∣ m) (h2 : b ∣ m) : lc a b ∣ m := by
  have gp := gcd_pos' (a := a) hb
  have e := Int.ediv_mul_cancel (Int.gcd_dvd_left (a := a) (b := b))
  have e2 := Int.ediv_mul_cancel (Int.gcd_dvd_right (a := a) (b := b))
  have hl : lc a b = (Int.lcm a b : Int) := by
    have h := Int.gcd_mul_lcm a b
    have h' : (Int.gcd a b : Int) * (Int.lcm a b : Int) = a * b := by
      have hh : ((Int.gcd a b * Int.lcm a b : Nat) : Int) = ((a * b).natAbs : Int) := by rw [h, Int.natAbs_mul]
      rw [Int.natCast_mul] at hh
      rw [hh]
      have := Int.mul_pos ha hb
      omega
    refine Int.eq_of_mul_eq_mul_left (show (Int.gcd a b : Int) ≠ 0 by omega) ?_
    rw [h']
    unfold lc g0
    rw [← Int.mul_assoc, Int.mul_comm (Int.gcd a b : Int), e]
  rw [hl]
  have h3 : m.natAbs = m.natAbs := rfl
  have : Int.lcm a b ∣ m.natAbs := Nat.lcm_dvd (Int.natAbs_dvd_natAbs.mpr h1) (Int.natAbs_dvd_natAbs.mpr h2)
  exact Int.ofNat_dvd_left.mpr this
def lcmL (ns : List Int) : Int := ns.foldl lc 1
abbrev PosL (ns : List Int) : Prop := ∀ n ∈ ns, (0 : Int) < n
theorem fold_lc : ∀ (ns : List Int) (a : Int), 0 < a → PosL ns → 0 < ns.foldl lc a ∧ ∀ m, ns.foldl lc a ∣ m ↔ a ∣ m ∧ ∀ n ∈ ns, n ∣ m
  | [], a, h, _ => ⟨h, fun m => ⟨fun z => ⟨z, fun _ q => nomatch q⟩, fun z => z.1⟩⟩
  | n :: r, a, h, hp => by
    have hn : 0 < n := hp n List.mem_cons_self
    obtain ⟨h1, h2⟩ := fold_lc r (lc a n) (lc_pos h hn) fun m q => hp m (List.mem_cons_of_mem _ q)
    refine ⟨h1, fun m => ?_⟩
    rw [List.foldl_cons, h2]
    constructor
    · rintro ⟨z, q⟩
      refine ⟨Int.dvd_trans lc_l z, fun x hx => ?_⟩
      rcases List.mem_cons.mp hx with rfl | hx
      · exact Int.dvd_trans lc_r z
      · exact q x hx
    · rintro ⟨z, q⟩
      exact ⟨lc_dvd h hn z (q n List.mem_cons_self), fun x hx => q x (List.mem_cons_of_mem _ hx)⟩
theorem lcmL_pos {ns : List Int} (h : PosL ns) : 0 < lcmL ns := (fold_lc ns 1 (by decide) h).1
theorem lcmL_dvd {ns : List Int} (h : PosL ns) {m : Int} : lcmL ns ∣ m ↔ ∀ n ∈ ns, n ∣ m := by
  have := (fold_lc ns 1 (by decide) h).2 m
  unfold lcmL
  rw [this]
  exact ⟨fun z => z.2, fun z => ⟨Int.one_dvd m, z⟩⟩
theorem lcmL_self {ns : List Int} (h : PosL ns) {n : Int} (hn : n ∈ ns) : n ∣ lcmL ns := (lcmL_dvd h).mp (Int.dvd_refl _) n hn
theorem lcmL_le {ns ms : List Int} (h : PosL ns) (h' : PosL ms) (s : ∀ n ∈ ns, n ∈ ms) : lcmL ns ≤ lcmL ms :=
  Int.le_of_dvd (lcmL_pos h') ((lcmL_dvd h).mpr fun n q => lcmL_self h' (s n q))
theorem lcmL_bound : ∀ {ns : List Int} {k : Nat}, (∀ n ∈ ns, (1 : Int) ≤ n ∧ n ≤ 1000) → ns.length ≤ k → lcmL ns ≤ 1000 ^ k := by
  have key : ∀ (ns : List Int) (a : Int) (j : Nat), 0 < a → a ≤ 1000 ^ j → (∀ n ∈ ns, (1 : Int) ≤ n ∧ n ≤ 1000) → ns.foldl lc a ≤ 1000 ^ (j + ns.length) := by
    intro ns
    induction ns with
    | nil => intro a j _ h _; exact h
    | cons n r ih =>
      intro a j h0 h hp
      obtain ⟨h1, h2⟩ := hp n List.mem_cons_self
      have e : lc a n ≤ 1000 ^ (j + 1) := by
        refine Int.le_trans (Int.le_of_dvd (Int.mul_pos h0 (by omega)) (lc_dvd h0 (by omega) (Int.dvd_mul_right ..) (Int.dvd_mul_left ..))) ?_
        rw [Int.pow_succ]
        exact Int.mul_le_mul h h2 (by omega) (Int.pow_nonneg (by decide))
      have := ih (lc a n) (j + 1) (lc_pos h0 (by omega)) e fun m q => hp m (List.mem_cons_of_mem _ q)
      rw [List.foldl_cons, List.length_cons, show j + (r.length + 1) = j + 1 + r.length by omega]
      exact this
  intro ns k h hk
  have h1 := key ns 1 0 (by decide) (by decide) h
  rw [Nat.zero_add] at h1
  refine Int.le_trans h1 ?_
  have : ∀ d a : Nat, (1000 : Int) ^ a ≤ 1000 ^ (a + d) := by
    intro d
    induction d with
    | zero => intro a; exact Int.le_refl _
    | succ d ih =>
      intro a
      refine Int.le_trans (ih a) ?_
      rw [← Nat.add_assoc, Int.pow_succ]
      have : (0 : Int) ≤ 1000 ^ (a + d) := Int.pow_nonneg (by decide)
      omega
  have := this (k - ns.length) ns.length
  rw [show ns.length + (k - ns.length) = k by omega] at this
  exact this
def sel : List Bool → List Int → List Int
  | b :: m, h :: r => if b then h :: sel m r else sel m r
  | _, _ => []
def nots (m : List Bool) : List Bool := m.map (!·)
theorem sel_sub : ∀ {m : List Bool} {hs : List Int} {h : Int}, h ∈ sel m hs → h ∈ hs
  | [], _, _, q => by simp [sel] at q
  | _ :: _, [], _, q => by simp [sel] at q
  | b :: m, x :: r, h, q => by
    unfold sel at q
    cases b with
    | true =>
      rcases List.mem_cons.mp q with rfl | q
      · exact List.mem_cons_self
      · exact List.mem_cons_of_mem _ (sel_sub q)
    | false => exact List.mem_cons_of_mem _ (sel_sub q)
theorem sel_pos {m : List Bool} {hs : List Int} (h : PosL hs) : PosL (sel m hs) := fun n q => h n (sel_sub q)
theorem sel_len : ∀ {m : List Bool} {hs : List Int}, (sel m hs).length ≤ hs.length
  | [], _ => by simp [sel]
  | _ :: _, [] => by simp [sel]
  | b :: m, x :: r => by
    have := sel_len (m := m) (hs := r)
    unfold sel
    split <;> simp <;> omega
def Spl (hs : List Int) (a b : Int) : Prop := ∃ m : List Bool, m.length = hs.length ∧ sel m hs ≠ [] ∧ sel (nots m) hs ≠ [] ∧ a = lcmL (sel m hs) ∧ b = lcmL (sel (nots m) hs)
theorem Spl.pos {hs : List Int} (hp : PosL hs) {a b : Int} (h : Spl hs a b) : 0 < a ∧ 0 < b := by
  obtain ⟨m, h1, h2, h3, h4, h5⟩ := h
  rw [h4, h5]
  exact ⟨lcmL_pos (sel_pos hp), lcmL_pos (sel_pos hp)⟩
theorem Spl.le {hs : List Int} (hp : PosL hs) {a b : Int} (h : Spl hs a b) : a ≤ lcmL hs ∧ b ≤ lcmL hs := by
  obtain ⟨m, h1, h2, h3, h4, h5⟩ := h
  rw [h4, h5]
  exact ⟨lcmL_le (sel_pos hp) hp fun _ => sel_sub, lcmL_le (sel_pos hp) hp fun _ => sel_sub⟩
def isSeq (d : D) (ns : List Int) : Prop := d = .lst (ns.map .int) ∨ d = .tup (ns.map .int)
def HsOk (hs : List Int) : Prop := hs ≠ [] ∧ hs.length ≤ 6 ∧ ∀ n ∈ hs, (1 : Int) ≤ n ∧ n ≤ 1000
def SmOk (hs : List Int) : Prop := hs.length ≤ 6 ∧ ∀ n ∈ hs, (1 : Int) ≤ n ∧ n ≤ 1000
theorem HsOk.sm {hs : List Int} (h : HsOk hs) : SmOk hs := h.2
theorem SmOk.pos {hs : List Int} (h : SmOk hs) : PosL hs := fun n q => by have := h.2 n q; omega
theorem SmOk.sel {hs : List Int} (h : SmOk hs) (m : List Bool) : SmOk (sel m hs) := ⟨Nat.le_trans sel_len h.1, fun n q => h.2 n (sel_sub q)⟩
theorem SmOk.lcm {hs : List Int} (h : SmOk hs) : 0 < lcmL hs ∧ lcmL hs ≤ 10 ^ 18 := ⟨lcmL_pos h.pos, Int.le_trans (lcmL_bound h.2 h.1) (by decide)⟩
def rd_multiple (C : Cl) : PTS := (dSeq (dSet 1 (dC (.int 1)))
    (dSeq (dFor (iA (dVar 0)) (gNm 2) (dSet 1 (dOp fMul (dOp fDiv (dVar 1) (dCall (sp_divisor C) [] (dCons (dVar 1) (dCons (dVar 2) dNil)))) (dVar 2))))
    (dRet (dVar 1))))
theorem iA_seq {d : D} {ns : List Int} {w : PWi} {ρ : Rho} {M : Mm} {pe : PTE} {q : List D → Mm → Prop} (hd : isSeq d ns) (he : ∀ q' : PQ, q' d M → pe w ρ M q') (h : q (ns.map .int) M) : iA pe w ρ M q := by
  refine he _ ?_
  rcases hd with rfl | rfl <;> exact h
end Px
set_option Elab.async false
set_option linter.all false
set_option maxRecDepth 100000
namespace Px
open PySem PySem.Spec PyProof.Rows L2
def addD : D → D
  | .tup [.int a, .int b] => .int (a + b)
  | d => d
def NmOk (i : Int) : Prop := -(10 ^ 40) ≤ i ∧ i ≤ 10 ^ 40
theorem NmOk.sz {i : Int} (h : NmOk i) : SzB 140 i := SzB.of (by have := h.1; omega) (by have := h.2; omega)
end Px
set_option Elab.async false
set_option linter.all false
set_option maxRecDepth 100000
namespace Px
open PySem PySem.Spec PyProof.Rows L2
theorem mulx_small {i j : Int} (h0 : -(10 ^ 60) ≤ i) (h1 : i ≤ 10 ^ 60) (h2 : -(10 ^ 60) ≤ j) (h3 : j ≤ 10 ^ 60) : CMulX i j :=
  cmul_of (a := 300) (b := 300) (Nat.lt_of_le_of_lt (show i.natAbs ≤ 10 ^ 60 by omega) (by decide)) (Nat.lt_of_le_of_lt (show j.natAbs ≤ 10 ^ 60 by omega) (by decide)) (by decide)
theorem Bd.sm {n : Int} (h0 : 0 ≤ n) (h : n ≤ 10 ^ 60) : Bd n := Bd.small (by omega) (Int.le_trans h (by decide))
def Sz (i : Int) : Prop := -(10 ^ 60) ≤ i ∧ i ≤ 10 ^ 60
theorem Sz.mul {i j : Int} (h : Sz i) (h' : Sz j) : CMulX i j := mulx_small h.1 h.2 h'.1 h'.2
theorem Sz.of {i : Int} (h : -(10 ^ 59) ≤ i) (h' : i ≤ 10 ^ 59) : Sz i := ⟨by omega, by omega⟩
theorem Sz.div {i : Int} (h : Sz i) (h0 : 0 < i) (j : Int) : CDivW j i := (Bd.sm (by omega) h.2).div h0 j
def asP (d : D) (k : Int → Int → Prop) : Prop := match d with | .tup [.int x, .int y] => k x y | _ => False
theorem asP_of {d : D} {k : Int → Int → Prop} (h : asP d k) : ∃ x y, d = .tup [.int x, .int y] ∧ k x y := by
  unfold asP at h
  split at h
  · exact ⟨_, _, rfl, h⟩
  · exact h.elim
def RtOk (a b : Int) : Prop := 0 < a ∧ a ≤ 10 ^ 30 ∧ 0 < b ∧ b ≤ 10 ^ 30
theorem RtOk.sa {a b : Int} (h : RtOk a b) : Sz a := ⟨by have := h.1; omega, by have := h.2.1; omega⟩
theorem RtOk.sb {a b : Int} (h : RtOk a b) : Sz b := ⟨by have := h.2.2.1; omega, by have := h.2.2.2; omega⟩
def EnOk (i : Int) : Prop := -5000 ≤ i ∧ i ≤ 5000
theorem EnOk.sz {i : Int} (h : EnOk i) : Sz i := ⟨by have := h.1; omega, by have := h.2; omega⟩
theorem spd_parts {x y : Int} (hx : 0 ≤ x) (hy : 0 < y) : ∃ u v g, spd x y = .tup [.int u, .int v] ∧ 0 ≤ u ∧ 0 < v ∧ 0 < g ∧ x = g * u ∧ y = g * v ∧ u ≤ x ∧ v ≤ y := by
  have gp := g0_pos (x := x) hy
  have ex := Int.mul_ediv_cancel' (g0_dvd_l x y)
  have ey := Int.mul_ediv_cancel' (g0_dvd_r x y)
  refine ⟨x / g0 x y, y / g0 x y, g0 x y, rfl, Int.ediv_nonneg hx (by omega), ?_, gp, ex.symm, ey.symm, Int.ediv_le_self _ hx, Int.ediv_le_self _ (by omega)⟩
  by_cases c : 0 < y / g0 x y
  · exact c
  · exfalso
    have : g0 x y * (y / g0 x y) ≤ g0 x y * 0 := Int.mul_le_mul_of_nonneg_left (by omega) (by omega)
    omega
end Px
set_option Elab.async false
set_option linter.all false
set_option maxRecDepth 100000
namespace Px
open PySem PySem.Spec PyProof.Rows L2
def sp__law_lcm (C : Cl) : PSp := fun ds M q _ => ar1 ds fun d => ∃ ns, isSeq d ns ∧ SmOk ns ∧ ∀ d, d = .int (lcmL ns) → q d M
def rd__law_lcm (C : Cl) : PTS := (dSeq (dSet 1 (dC (.int 1)))
    (dSeq (dFor (iA (dVar 0)) (gNm 2) (dSeq (dPar 3 4 (dCons (dVar 1) (dCons (dVar 2) dNil)))
    (dSeq (dWhile (dTst (dOp fGt (dVar 4) (dC (.int 0)))) (dPar 3 4 (dCons (dVar 4) (dCons (dOp fMod (dVar 3) (dVar 4)) dNil))))
    (dSet 1 (dOp fMul (dOp fDiv (dVar 1) (dVar 3)) (dVar 2))))))
    (dRet (dVar 1))))
def sp__law_seen (C : Cl) : PSp := fun ds M q _ => ar2 ds fun a b => asI a fun h => asP b fun t b => (0 < h ∧ h ≤ 10 ^ 40 ∧ 0 ≤ t ∧ t ≤ 10 ^ 60 ∧ 0 < b ∧ b ≤ 10 ^ 60) ∧ ∀ d, d = spd (near (2 * h * b) t) b → q d M
def rd__law_seen (C : Cl) : PTS := (dSeq (dAsg (dVar 1) (gTp 2 (gsCons (gNm 2) (gsCons (gNm 3) gsNil))))
    (dSeq (dSet 4 (dOp fMul (dOp fMul (dOp fMul (dOp fDiv (dVar 2) (dOp fMul (dOp fMul (dC (.int 2)) (dVar 0)) (dVar 3))) (dC (.int 2))) (dVar 0)) (dVar 3)))
    (dSeq (dSet 5 (dOp fMin2 (dOp fSub (dVar 2) (dVar 4)) (dOp fSub (dOp fAdd (dVar 4) (dOp fMul (dOp fMul (dC (.int 2)) (dVar 0)) (dVar 3))) (dVar 2))))
    (dRet (dCall sp_frac2 [] (dCons (dVar 5) (dCons (dVar 3) dNil)))))))
theorem sh__law_seen (C : Cl) : Shows (sp__law_seen C) 6 (rd__law_seen C) := by
  intro ds M q e h
  obtain ⟨a, b, rfl, h⟩ := ar2_of h
  obtain ⟨h', e1, h⟩ := asI_of h
  subst e1
  obtain ⟨t, b, rfl, ⟨h1, h2, h3, h4, h5, h6⟩, hq⟩ := asP_of h
  have hq := hq _ rfl
  haveI : SzB 140 h' := SzB.of (by omega) (by omega)
  haveI : SzB 210 t := SzB.of (by omega) (by omega)
  haveI : SzB 210 b := SzB.of (by omega) (by omega)
  have S0 : 0 < 2 * h' * b := Int.mul_pos (by omega) h5
  have e2 : t / (2 * h' * b) * 2 * h' * b = t / (2 * h' * b) * (2 * h' * b) := by rw [Int.mul_assoc, Int.mul_assoc, ← Int.mul_assoc 2 h' b]
  have e3 := Int.emod_add_mul_ediv t (2 * h' * b)
  have e4 : t / (2 * h' * b) * (2 * h' * b) = t - t % (2 * h' * b) := by rw [Int.mul_comm]; omega
  have n0 := near_bounds S0 t
  refine ⟨rfl, (SzB.mulX inferInstance inferInstance), (SzB.mulX inferInstance inferInstance), SzB.divX S0 inferInstance, (SzB.mulX inferInstance inferInstance), (SzB.mulX inferInstance inferInstance), (SzB.mulX inferInstance inferInstance), (SzB.mulX inferInstance inferInstance), (SzB.mulX inferInstance inferInstance), ?_⟩
  dsimp only [dSeq, dInN, dPutN, dGetN, dNewN, dCallL, dCallLK, dRetL, dRetOwn, dNext, dSet, dSetO, dRet, dRetN, dDrop, dIfS, dFor, dPar, dPar3, dParL2, dParL3, dAsg, dFrz, dIf, dTst, dOp, dVar, dOwn, dC, dB1, dG1, dL, dLst, dCons, dNil, dTup, dCall, dCallK, dAnd, dOr, dNot, dAndV, dOrV, dNotV, dNeg, dChain, dNever, dNeverS, dRaise, dYes, gNm, gsCons, gsNil, gTp, gt, st, fAdd, fSub, fMul, fDiv, fMod, fPow, fShl, fShr, fCmp, fEq, fNe, fEqS, fNeS, fIs, fIsNot, fLen, fMin, fMax, fMin2, fMax2, fAll, fAny, fAbs, fTup, fRepr, fIx, atD, isB, ls2, ls3, startR, ar1, ar2, ar3, ar4, asI, asT, asL, asDraw, sp_take, sp_pick, sp_begin, List.map, List.append, List.replicate, List.length, List.cons_append, List.nil_append, Nat.sub_self, Nat.reduceSub, Nat.reduceAdd, dApp, isOwn, appR, dSl, dPt, dNo, slR, asIn, List.map_cons, List.map_nil]
  have e5 : (if t / (2 * h' * b) * 2 * h' * b + 2 * h' * b - t < t - t / (2 * h' * b) * 2 * h' * b then t / (2 * h' * b) * 2 * h' * b + 2 * h' * b - t else t - t / (2 * h' * b) * 2 * h' * b) = near (2 * h' * b) t := by
    rw [e2, e4]
    unfold near
    rw [show t - t % (2 * h' * b) + 2 * h' * b - t = 2 * h' * b - t % (2 * h' * b) by omega, show t - (t - t % (2 * h' * b)) = t % (2 * h' * b) by omega]
  rw [e5]
  exact ⟨⟨n0.1, h5, SzB.bd (m := 210) inferInstance⟩, fun d hd => ⟨M, MLe.refl _, hd ▸ hq⟩⟩
theorem okD_ints {k : Nat} (ns : List Int) : (ns.map D.int).all (okD k) = true := by
  rw [List.all_map, List.all_eq_true]
  intro x _
  cases k <;> rfl
end Px
set_option Elab.async false
set_option linter.all false
set_option maxRecDepth 100000
namespace Px
open PySem PySem.Spec PyProof.Rows L2
end Px
set_option Elab.async false
set_option linter.all false
set_option maxRecDepth 100000
set_option exponentiation.threshold 3000
namespace Px
open PySem PySem.Spec PyProof.Rows L2
def WdOk (ns : List Int) : Prop := ns.length ≤ 100 ∧ ∀ n ∈ ns, (1 : Int) ≤ n ∧ n ≤ 1000000
theorem WdOk.pos {ns : List Int} (h : WdOk ns) : PosL ns := fun n q => by have := h.2 n q; omega
theorem lcmL_boundW {c : Int} (hc : 1 ≤ c) : ∀ {ns : List Int}, (∀ n ∈ ns, (1 : Int) ≤ n ∧ n ≤ c) → lcmL ns ≤ c ^ ns.length := by
  have key : ∀ (ns : List Int) (a : Int) (j : Nat), 0 < a → a ≤ c ^ j → (∀ n ∈ ns, (1 : Int) ≤ n ∧ n ≤ c) → ns.foldl lc a ≤ c ^ (j + ns.length) := by
    intro ns
    induction ns with
    | nil => intro a j _ h _; exact h
    | cons n r ih =>
      intro a j h0 h hp
      obtain ⟨h1, h2⟩ := hp n List.mem_cons_self
      have e : lc a n ≤ c ^ (j + 1) := by
        refine Int.le_trans (Int.le_of_dvd (Int.mul_pos h0 (by omega)) (lc_dvd h0 (by omega) (Int.dvd_mul_right ..) (Int.dvd_mul_left ..))) ?_
        rw [Int.pow_succ]
        exact Int.mul_le_mul h h2 (by omega) (Int.pow_nonneg (by omega))
      have := ih (lc a n) (j + 1) (lc_pos h0 (by omega)) e fun m q => hp m (List.mem_cons_of_mem _ q)
      rw [List.foldl_cons, List.length_cons, show j + (r.length + 1) = j + 1 + r.length by omega]
      exact this
  intro ns h
  have h1 := key ns 1 0 (by decide) (by simp) h
  rwa [Nat.zero_add] at h1
theorem pow_mono1 {c : Int} (hc : 1 ≤ c) (a d : Nat) : c ^ a ≤ c ^ (a + d) := by
  induction d with
  | zero => exact Int.le_refl _
  | succ d ih =>
    rw [← Nat.add_assoc, Int.pow_succ]
    have p : 0 ≤ c ^ (a + d) := Int.pow_nonneg (by omega)
    have := Int.mul_le_mul_of_nonneg_left hc p
    rw [Int.mul_one] at this
    exact Int.le_trans ih this
theorem WdOk.lcm {ns : List Int} (h : WdOk ns) : 0 < lcmL ns ∧ lcmL ns < 2 ^ 2000 := by
  refine ⟨lcmL_pos h.pos, ?_⟩
  have h1 := lcmL_boundW (by decide) h.2
  have h2 := pow_mono1 (c := 1000000) (by decide) ns.length (100 - ns.length)
  have e : ns.length + (100 - ns.length) = 100 := by have := h.1; omega
  rw [e] at h2
  exact Int.lt_of_le_of_lt (Int.le_trans h1 h2) (by decide)
theorem lc_stepW {ns rs : List Int} {a n : Int} (hn : WdOk ns) (ha : 0 < a) (hl : lcmL ns = (n :: rs).foldl lc a) (hp : ∀ x ∈ n :: rs, (1 : Int) ≤ x ∧ x ≤ 1000000) :
    SzB 2000 a ∧ 0 < lc a n ∧ lcmL ns = rs.foldl lc (lc a n) := by
  have pp : PosL (n :: rs) := fun x q => by have := hp x q; omega
  have hd := ((fold_lc (n :: rs) a ha pp).2 (lcmL ns)).mp (hl ▸ Int.dvd_refl _)
  have hb := hn.lcm
  have := Int.le_of_dvd hb.1 hd.1
  exact ⟨SzB.of (Int.lt_trans (by decide) ha) (Int.lt_of_le_of_lt this hb.2), lc_pos ha (pp n List.mem_cons_self), hl⟩
def sp_multipleW (C : Cl) : PSp := fun ds M q _ => ar1 ds fun d => ∃ ns, isSeq d ns ∧ WdOk ns ∧ q (.int (lcmL ns)) M
theorem sh_multipleW (C : Cl) : Shows (sp_multipleW C) 3 (rd_multiple C) := by
  intro ds M q e h
  obtain ⟨d, rfl, ns, hd, hn, hq⟩ := ar1_of h
  dsimp only [rd_multiple, dSeq, dInN, dPutN, dGetN, dNewN, dCallL, dCallLK, dRetL, dRetOwn, dNext, dSet, dSetO, dRet, dRetN, dDrop, dIfS, dFor, dPar, dPar3, dParL2, dParL3, dAsg, dFrz, dIf, dTst, dOp, dVar, dOwn, dC, dB1, dG1, dL, dLst, dCons, dNil, dTup, dCall, dCallK, dAnd, dOr, dNot, dAndV, dOrV, dNotV, dNeg, dChain, dNever, dNeverS, dRaise, dYes, gNm, gsCons, gsNil, gTp, gt, st, fAdd, fSub, fMul, fDiv, fMod, fPow, fShl, fShr, fCmp, fEq, fNe, fEqS, fNeS, fIs, fIsNot, fLen, fMin, fMax, fMin2, fMax2, fAll, fAny, fAbs, fTup, fRepr, fIx, atD, isB, ls2, ls3, startR, ar1, ar2, ar3, ar4, asI, asT, asL, asDraw, sp_take, sp_pick, sp_begin, List.map, List.append, List.replicate, List.length, List.cons_append, List.nil_append, Nat.sub_self, Nat.reduceSub, Nat.reduceAdd, dApp, isOwn, appR, dSl, dPt, dNo, slR, asIn, List.map_cons, List.map_nil]
  refine iA_seq (pe := dVar 0) hd (by exact fun q' h => h) ?_
  refine forR_ind (fun rem ρ M' => M' = M ∧ ∃ (a : Int) (rs : List Int) (x2 : Option Sv), ρ = [some (.val d), some (.val (.int a)), x2] ∧ rem = rs.map .int ∧ 0 < a ∧ lcmL ns = rs.foldl lc a ∧ ∀ n ∈ rs, (1 : Int) ≤ n ∧ n ≤ 1000000) ?_ ?_ _ _ _ ⟨rfl, 1, ns, _, rfl, rfl, by decide, rfl, hn.2⟩
  · rintro x r ρ M' ⟨rfl, a, rs, x2, rfl, hr, ha, hl, hp⟩ F hF
    cases rs with
    | nil => cases hr
    | cons n rs =>
      cases hr
      obtain ⟨s1, s2, s3⟩ := lc_stepW hn ha hl hp
      have hn1 := hp n List.mem_cons_self
      have gp := g0_pos (x := a) (show 0 < n by omega)
      have gl := g0_le (x := a) (show 0 < n by omega)
      haveI : SzB 20 n := SzB.of (by omega) (by omega)
      haveI : SzB 20 (g0 a n) := SzB.of (by omega) (by omega)
      dsimp only [sp_divisor, dSeq, dInN, dPutN, dGetN, dNewN, dCallL, dCallLK, dRetL, dRetOwn, dNext, dSet, dSetO, dRet, dRetN, dDrop, dIfS, dFor, dPar, dPar3, dParL2, dParL3, dAsg, dFrz, dIf, dTst, dOp, dVar, dOwn, dC, dB1, dG1, dL, dLst, dCons, dNil, dTup, dCall, dCallK, dAnd, dOr, dNot, dAndV, dOrV, dNotV, dNeg, dChain, dNever, dNeverS, dRaise, dYes, iR1, iR2, iA, iEA, iL, iT, gNm, gsCons, gsNil, gTp, gt, st, fAdd, fSub, fMul, fDiv, fMod, fPow, fShl, fShr, fCmp, fEq, fNe, fEqS, fNeS, fIs, fIsNot, fLen, fMin, fMax, fMin2, fMax2, fAll, fAny, fAbs, fTup, fRepr, fIx, atD, isB, ls2, ls3, startR, ar1, ar2, ar3, ar4, asI, asT, asL, asDraw, sp_take, sp_pick, sp_begin, List.map, List.append, List.replicate, List.length, List.cons_append, List.nil_append, Nat.sub_self, Nat.reduceSub, Nat.reduceAdd, dApp, isOwn, appR, dSl, dPt, dNo, slR, asIn, List.map_cons, List.map_nil]
      exact ⟨by omega, by omega, (SzB.divX (by omega) inferInstance), (SzB.mulX inferInstance inferInstance), hF _ _ ⟨rfl, lc a n, rs, _, rfl, rfl, s2, s3, fun x q => hp x (List.mem_cons_of_mem _ q)⟩⟩
  · rintro ρ M' ⟨rfl, a, rs, x2, rfl, hr, ha, hl, hp⟩
    have e0 : rs = [] := by cases rs with | nil => rfl | cons => cases hr
    subst e0
    have hl : lcmL ns = a := hl
    exact ⟨M', MLe.refl _, hl ▸ hq⟩
def sp__law_lcmW (C : Cl) : PSp := fun ds M q _ => ar1 ds fun d => ∃ ns, isSeq d ns ∧ WdOk ns ∧ ∀ d, d = .int (lcmL ns) → q d M
theorem sh__law_lcmW (C : Cl) : Shows (sp__law_lcmW C) 5 (rd__law_lcm C) := by
  intro ds M q e h
  obtain ⟨d, rfl, ns, hd, hn, hq⟩ := ar1_of h
  have hq := hq _ rfl
  dsimp only [rd__law_lcm, dSeq, dInN, dPutN, dGetN, dNewN, dCallL, dCallLK, dRetL, dRetOwn, dNext, dSet, dSetO, dRet, dRetN, dDrop, dIfS, dFor, dPar, dPar3, dParL2, dParL3, dAsg, dFrz, dIf, dTst, dOp, dVar, dOwn, dC, dB1, dG1, dL, dLst, dCons, dNil, dTup, dCall, dCallK, dAnd, dOr, dNot, dAndV, dOrV, dNotV, dNeg, dChain, dNever, dNeverS, dRaise, dYes, gNm, gsCons, gsNil, gTp, gt, st, fAdd, fSub, fMul, fDiv, fMod, fPow, fShl, fShr, fCmp, fEq, fNe, fEqS, fNeS, fIs, fIsNot, fLen, fMin, fMax, fMin2, fMax2, fAll, fAny, fAbs, fTup, fRepr, fIx, atD, isB, ls2, ls3, startR, ar1, ar2, ar3, ar4, asI, asT, asL, asDraw, sp_take, sp_pick, sp_begin, List.map, List.append, List.replicate, List.length, List.cons_append, List.nil_append, Nat.sub_self, Nat.reduceSub, Nat.reduceAdd, dApp, isOwn, appR, dSl, dPt, dNo, slR, asIn, List.map_cons, List.map_nil]
  refine iA_seq (pe := dVar 0) hd (by exact fun q' h => h) ?_
  refine forR_ind (fun rem ρ M' => M' = M ∧ ∃ (a : Int) (rs : List Int) (x2 x3 x4 : Option Sv), ρ = [some (.val d), some (.val (.int a)), x2, x3, x4] ∧ rem = rs.map .int ∧ 0 < a ∧ lcmL ns = rs.foldl lc a ∧ ∀ n ∈ rs, (1 : Int) ≤ n ∧ n ≤ 1000000) ?_ ?_ _ _ _ ⟨rfl, 1, ns, _, _, _, rfl, rfl, by decide, rfl, hn.2⟩
  · rintro x r ρ M' ⟨rfl, a, rs, x2, x3, x4, rfl, hr, ha, hl, hp⟩ F hF
    cases rs with
    | nil => cases hr
    | cons n rs =>
      cases hr
      obtain ⟨s1, s2, s3⟩ := lc_stepW hn ha hl hp
      have hn1 := hp n List.mem_cons_self
      have gp := g0_pos (x := a) (show 0 < n by omega)
      have gl := g0_le (x := a) (show 0 < n by omega)
      haveI : SzB 20 n := SzB.of (by omega) (by omega)
      haveI : SzB 20 (g0 a n) := SzB.of (by omega) (by omega)
      dsimp only [dSeq, dInN, dPutN, dGetN, dNewN, dCallL, dCallLK, dRetL, dRetOwn, dNext, dSet, dSetO, dRet, dRetN, dDrop, dIfS, dFor, dPar, dPar3, dParL2, dParL3, dAsg, dFrz, dIf, dTst, dOp, dVar, dOwn, dC, dB1, dG1, dL, dLst, dCons, dNil, dTup, dCall, dCallK, dAnd, dOr, dNot, dAndV, dOrV, dNotV, dNeg, dChain, dNever, dNeverS, dRaise, dYes, gNm, gsCons, gsNil, gTp, gt, st, fAdd, fSub, fMul, fDiv, fMod, fPow, fShl, fShr, fCmp, fEq, fNe, fEqS, fNeS, fIs, fIsNot, fLen, fMin, fMax, fMin2, fMax2, fAll, fAny, fAbs, fTup, fRepr, fIx, atD, isB, ls2, ls3, startR, ar1, ar2, ar3, ar4, asI, asT, asL, asDraw, sp_take, sp_pick, sp_begin, List.map, List.append, List.replicate, List.length, List.cons_append, List.nil_append, Nat.sub_self, Nat.reduceSub, Nat.reduceAdd, dApp, isOwn, appR, dSl, dPt, dNo, slR, asIn, List.map_cons, List.map_nil]
      refine ⟨fun m ρ M2 => ∃ x' y' : Int, ρ = [some (.val d), some (.val (.int a)), some (.val (.int n)), some (.val (.int x')), some (.val (.int y'))] ∧ M2 = M' ∧ 0 ≤ x' ∧ 0 ≤ y' ∧ g0 x' y' = g0 a n ∧ m = y'.toNat, ⟨_, a, n, rfl, rfl, by omega, by omega, rfl, rfl⟩, ?_⟩
      rintro m ρ M2 ⟨x', y', rfl, rfl, g1, g2, g3, rfl⟩
      by_cases hy : 0 < y'
      · refine itT (decide_eq_true hy) ⟨hy, ?_⟩
        have e1 := Int.emod_nonneg x' (show y' ≠ 0 by omega)
        have e2 := Int.emod_lt_of_pos x' hy
        exact ⟨_, by omega, y', x' % y', rfl, rfl, g2, e1, by rw [g0_step]; exact g3, rfl⟩
      · have e0 : y' = 0 := by omega
        rw [e0, g0_zero g1] at g3
        subst g3
        exact itF (decide_eq_false hy) ⟨(SzB.divX (by omega) inferInstance), (SzB.mulX inferInstance inferInstance), hF _ _ ⟨rfl, lc a n, rs, _, _, _, rfl, rfl, s2, s3, fun x q => hp x (List.mem_cons_of_mem _ q)⟩⟩
  · rintro ρ M' ⟨rfl, a, rs, x2, x3, x4, rfl, hr, ha, hl, hp⟩
    have e0 : rs = [] := by cases rs with | nil => rfl | cons => cases hr
    subst e0
    have hl : lcmL ns = a := hl
    exact ⟨M', MLe.refl _, hl ▸ hq⟩
end Px
set_option Elab.async false
set_option linter.all false
set_option maxRecDepth 100000
namespace Px
open PySem PySem.Spec PyProof.Rows L2
abbrev setAt (w : World) (D : Addr) (S : Int → Bool) (n : Nat) (H : Hp) : Hp := upd H D (SetO w D S n)
def ScAdd (w : World) (D : Addr) (go : Hp → Prop) : VK := fun y H => ∃ (k : Int) (S : Int → Bool) (n : Nat), y = .int k ∧ H D = some (SetO w D S n) ∧ n + 1 < scanBound ∧ go (setAt w D (fun j => S j || decide (j = k)) (if S k = true then n else n + 1) H)
def ScTurn (w : World) (J : It) (D : Addr) (Q : Hp → Prop) (g : TG) (tt : TT) (te : TE) (vs : List Nat) (σ : L2.St) (W : Nat → Nat → Hp → Prop) : Prop := ∀ i m H, W i m H →
  (J.stop i H ∧ Q H) ∨ (J.go i H ∧ ∀ x H', J.yld i H x H' → g x (wipe σ vs) H' fun σ2 H2 => wipe σ2 vs = wipe σ vs ∧
    tt σ2 H2 fun b H3 => if b = true then te σ2 H3 (ScAdd w D fun H4 => ∃ m', m' < m ∧ W (i + 1) m' H4) else ∃ m', m' < m ∧ W (i + 1) m' H3)
def tScI (w : World) (wi : TI) (g : TG) (tt : TT) (te : TE) (vs : List Nat) : TE := fun σ H Q => wi σ H fun J H1 => ∀ D, H1 D = none →
  ∃ W : Nat → Nat → Hp → Prop, (∃ m, W 0 m (setAt w D (fun _ => false) 0 H1)) ∧ ScTurn w J D (fun H2 => Q (.ref D) H2) g tt te vs σ W
section
variable {B : Cx} {tg elt iter : Expr} {ifs : List Expr} {scope : Scope} {pos : Pos} {g : TG} {tt : TT} {te : TE} {vs : List Nat} {σ : L2.St} {J : It} {D it : Addr} {fp : List Addr} {tn : Nat → Heap → Prop} {Q : Hp → Prop} {W : Nat → Nat → Hp → Prop}
theorem fp_still (he : B.ex = fp) (hp : B.pn = []) {σ' : L2.St} {H' : Hp} {s' : Shared} (I : Inv B [] σ' H' s') (n : ∀ b ∈ fp, H' b = none) : ∀ b ∈ fp, FpOk B [] H' b := by
  subst he
  intro b hb
  refine ⟨n b hb, (I.ok.exf b hb).1, I.ok.exfs b hb, .inl hb, fun x c e => (I.ok.exf b hb).2 x c e, fun p h => ?_⟩
  rw [hp] at h
  cases h
theorem scI_loop (hx : B.xe = fun _ _ => False) (hc : B.calm = true) (he : B.ex = fp) (hp : B.pn = []) (T : Turn B.prog B.w B.K tg J fp it tn) (pg : PG B tg g) (pt : PTs B ifs tt) (pe : PE B elt te)
    (turn : ScTurn B.w J D Q g tt te vs σ W) {R : Result → Shared → Prop} (hR : ∀ H' s', Inv B [] (wipe σ vs) H' s' → Q H' → R (.ok .next) s') (m : Nat) (s0 : Shared) (H0 : Hp) (I0 : Inv B [] (wipe σ vs) H0 s0) (t0 : tn 0 s0.heap) (f0 : ∀ b ∈ fp, H0 b = none) (w0 : W 0 m H0) :
    codeAny (model B.prog B.w) B.A (.compLoop (.SetComp elt [⟨tg, iter, ifs, 0⟩] scope pos) 0 (.ref it) (.ref D) B.env) R s0 := by
  have none_raise : ∀ {α : Type} {t : Sem α} {P P' : α → Shared → Prop} {E : Value → Shared → Prop} {s : Shared}, wpAny (model B.prog B.w) B.A t P B.xe s → (∀ a s, P a s → P' a s) → wpAny (model B.prog B.w) B.A t P' E s := fun h k => by
    rw [hx] at h
    exact thnF h k
  refine PpSet.compLoopS_any (fun k s => ∃ i H, Inv B [] (wipe σ vs) H s ∧ tn i s.heap ∧ (∀ b ∈ fp, H b = none) ∧ W i k H) ?_ m ⟨0, H0, I0, t0, f0, w0⟩
  rintro k s ⟨i, H, I, ti, fi, wi⟩
  have still := fp_still he hp I fi
  rcases turn i k H wi with ⟨hs, q⟩ | ⟨hg, step⟩
  · refine thnF (T.done B rfl rfl rfl hc i [] s _ H (fun _ _ => False) I still ti hs) fun r s1 h => ?_
    rw [h.1]
    exact hR H s1 h.2 q
  · refine thnF (T.item B rfl rfl rfl hc i [] s _ H (fun _ _ => False) I still ti hg) fun r s1 h1 => ?_
    obtain ⟨u, er, h1⟩ := h1
    rw [er]
    refine thnF h1 fun _ s2 h2 => ?_
    obtain ⟨x, H2, I2, rx, yx, t2, f2⟩ := h2
    have J2 := I2.pinned (fp_still he hp I2 f2) (T.obj _ _ t2)
    have close : ∀ {σ3 : L2.St} {H3 : Hp} {s3 : Shared}, wipe σ3 vs = wipe σ vs → Inv B ([] ++ pinsAt fp s2.heap) σ3 H3 s3 → (∃ m', m' < k ∧ W (i + 1) m' H3) → ∃ m', m' < k ∧ ∃ i H, Inv B [] (wipe σ vs) H s3 ∧ tn i s3.heap ∧ (∀ b ∈ fp, H b = none) ∧ W i m' H := by
      rintro σ3 H3 s3 ew I3 ⟨m', lt, w3⟩
      have held : ∀ b ∈ fp, ∀ o, s2.heap.get? b = some o → s3.heap.get? b = some o ∧ H3 b = none := fun b hb o e =>
        have z := I3.pin (b, o) (List.mem_append_right _ (List.mem_append_right _ (mem_pinsAt hb e)))
        ⟨z.1, z.2.1⟩
      refine ⟨m', lt, i + 1, H3, I3.unpinned.weak (by rw [← ew, wipe_length]) fun j v e => ?_, T.keep _ _ _ t2 fun b hb o e => (held b hb o e).1, fun b hb => ?_, w3⟩
      · rw [← ew] at e
        exact (wipe_some e).1
      · obtain ⟨o, e, _⟩ := T.obj _ _ t2 b hb
        exact (held b hb o e).2
    refine none_raise (pg.run _ s2 _ H2 x u _ J2 rx (step x H2 yx)) fun _ s3 h3 => ?_
    obtain ⟨σ3, H3, I3, ew, q3⟩ := h3
    refine none_raise (pt.run _ s3 σ3 H3 _ I3 q3) fun b s4 h4 => ?_
    obtain ⟨H4, I4, q4⟩ := h4
    cases b with
    | false => exact close ew I4 q4
    | true =>
      refine none_raise (pe.run _ s4 σ3 H4 _ I4 q4) fun z s5 h5 => ?_
      obtain ⟨y, H5, I5, ry, a, S, n, ey, h6, hn, go⟩ := h5
      refine none_raise (mt_sadd _ s5 σ3 H5 (.ref D) [y] (.ref D) [z] (fun _ H6 => ∃ m', m' < k ∧ W (i + 1) m' H6) I5 rfl (.cons ry .nil) ⟨D, a, S, n, rfl, by rw [ey], h6, hn, go⟩) fun _ s6 h7 => ?_
      obtain ⟨_, H6, I6, _, q6⟩ := h7
      exact close ew I6 q6
end
section
variable {X : Cx}
theorem pe_scI {elt tg iter : Expr} {ifs : List Expr} {scope : Scope} {own : List (PySem.Str × Nat)} {pos : Pos} {wi : TI} {g : TG} {tt : TT} {te : TE} (hc : X.calm = true) (hN : X.N.Nodup) (hi : PI X tg iter wi) (ok : BlkOk X.N X.env.scope scope own)
    (hg : ∀ (s : Shared) (H : Hp) (C : Addr) (cs : List (PySem.Str × Addr)) (fp : List Addr), PG (X.blk s H scope (compEnvC scope cs C X.env) fp) tg g)
    (ht : ∀ (s : Shared) (H : Hp) (C : Addr) (cs : List (PySem.Str × Addr)) (fp : List Addr), PTs (X.blk s H scope (compEnvC scope cs C X.env) fp) ifs tt)
    (he : ∀ (s : Shared) (H : Hp) (C : Addr) (cs : List (PySem.Str × Addr)) (fp : List Addr), PE (X.blk s H scope (compEnvC scope cs C X.env) fp) elt te) (hs : ∀ x, foldedSetIterable iter X.env x = pure x := by intro _; rfl) :
    PE X (.SetComp elt [⟨tg, iter, ifs, 0⟩] scope pos) (tScI X.w wi g tt te (own.map (·.2))) := by
  refine ⟨fun pins s σ H Q I h => ?_⟩
  rw [PpSet.eval_SetComp]
  have cells : ∀ y ∈ scope.names, y.2 = .free → ∃ c, X.env.cells.lookup y.1 = some c := fun y hy e => I.ok.has _ ((ok.free y hy e).elim .inl .inr)
  refine wpAny_comprehension_free (use := none) rfl hs (closure_ok cells) ok.kind (fun y hy e => (ok.uniq y hy).trans (congrArg some e)) ?_
  refine thn (hi.run pins s σ H _ I h) fun xv s1 h1 => thn h1 fun itv s2 h2 => ?_
  obtain ⟨it, fp, tn, J, H2, rfl, I2, T, t2, f2, q⟩ := h2
  refine PpSet.newSet_ok (newEnv_comp ?_)
  have hD : H2 s2.heap.objs.size = none := I2.hok.fresh (Nat.le_refl _)
  obtain ⟨W, ⟨m, w0⟩, turn⟩ := q _ hD
  generalize hs3 : (⟨s2.heap.push _, s2.gens, s2.drawn, s2.toks, s2.os⟩ : Shared) = s3
  generalize eD : s2.heap.objs.size = D at hD w0 turn ⊢
  generalize hset : setAt X.w D (fun _ => false) 0 H2 = H3 at w0
  have I3 : Inv X pins σ H3 s3 := by
    rw [← hs3, ← hset, ← eD]
    exact I2.laid (fun b o e => Heap.get?_push_of_some _ e) (Nat.le_refl _) (setO_new (setR_fresh X.w))
  have up : ∀ b o, s2.heap.get? b = some o → s3.heap.get? b = some o := fun b o e => by rw [← hs3]; exact Heap.get?_push_of_some _ e
  have f3 : ∀ b ∈ fp, FpOk X pins H3 b ∧ b < s3.heap.objs.size := fun b hb => by
    obtain ⟨o, e, _⟩ := T.obj _ _ t2 b hb
    have lt := Heap.lt_size e
    refine ⟨⟨?_, (f2 b hb).2⟩, Heap.lt_size (up b o e)⟩
    rw [← hset, ← eD]
    exact (upd_ne (Nat.ne_of_lt lt)).trans (f2 b hb).1
  have I4 := block_start I3 ok hN f3
  have pg := hg s3 H3 s3.heap.objs.size (cellsFrom (s3.heap.objs.size + 1) scope.names (cloFrom X.env.cells scope.names [])) fp
  have pt := ht s3 H3 s3.heap.objs.size (cellsFrom (s3.heap.objs.size + 1) scope.names (cloFrom X.env.cells scope.names [])) fp
  have pe := he s3 H3 s3.heap.objs.size (cellsFrom (s3.heap.objs.size + 1) scope.names (cloFrom X.env.cells scope.names [])) fp
  generalize hk : s3.heap.objs.size = k at I4 pg pt pe ⊢
  show codeAny _ _ (.compStart (.SetComp elt [⟨tg, iter, ifs, 0⟩] scope pos) 0 (.ref it) (.ref D) (compEnvC scope (cellsFrom (k + 1) scope.names (cloFrom X.env.cells scope.names [])) k X.env)) (compPost (model X.prog X.w) X.A X.xe none (EP X pins σ Q) (.ref D) k) _
  have nD : ∀ b ∈ fp, H3 b = none := fun b hb => (f3 b hb).1.1
  generalize hce : compEnvC scope (cellsFrom (k + 1) scope.names (cloFrom X.env.cells scope.names [])) k X.env = ce at I4 pg pt pe ⊢
  have cL : ce.locals = k := by rw [← hce]; rfl
  generalize hs4 : (⟨pushCells (s3.heap.push _) _, s3.gens, s3.drawn, s3.toks, s3.os⟩ : Shared) = s4 at I4 ⊢
  have t4 : tn 0 s4.heap := T.keep _ _ _ t2 fun b _ o e => by
    rw [← hs4]
    exact pushCells_keeps _ _ _ _ (Heap.get?_push_of_some _ (up b o e))
  have loop := scI_loop (B := X.blk s3 H3 scope ce fp) (scope := scope) (iter := iter) (pos := pos) (D := D) (R := compPost (model X.prog X.w) X.A X.xe none (EP X pins σ Q) (.ref D) k) rfl hc rfl rfl T pg pt pe turn (fun H' s' I' qq => by
    have back : Inv X pins σ H' s' := I3.call' (ch := fp) I'.os I'.base I'.hok I'.bare fun b hb =>
      have z := (f3 b hb).1.2
      ⟨z.2.2.1, z.1, z.2.2.2.1, z.2.2.2.2⟩
    have nk : H' k = none := by rw [← cL]; exact I'.free
    obtain ⟨m', hn, _⟩ := I'.loc
    have hn : s'.heap.Ns ce.locals m' := hn
    rw [cL] at hn
    obtain ⟨z0, z1, z2, z3, z4, z5⟩ := I3.fpOk (Nat.le_of_eq hk) nk
    exact ⟨m', hn, fun h2 sb => ⟨.ref D, H', back.turned (t' := s'.toks) (fun b o ne e => (sb.2 b ne).trans e) z0 z1 z3 z4 z5, rfl, qq⟩⟩) m s4 H3 I4 t4 nD w0
  exact PpSet.codeAny_compStart_set loop (T.self X.A 0 _ _ _ t4 loop)
end
end Px
set_option Elab.async false
set_option linter.all false
set_option maxRecDepth 100000
namespace Px
open PySem PySem.Spec PyProof.Rows L2
def Gh.here (g : Gh) (H F : Hp) (O : Own) : Gh where
  H0 := fun a => match O a with
    | none => H a
    | some (.obj _) => H a
    | some _ => none
  F0 := F
  own0 := fun a => ∃ m, O a = some (.obj m)
  tmp := g.tmp
section
variable {K : PySem.W.Frag} {g : Gh} {σ σ' : L2.St} {H H' F F' : Hp} {ρ ρ' : Rho} {M M' : Mm} {O O' : Own} {D : Addr} {o : HO}
theorem here_none (A : Ab K g σ H ρ M F O) {a : Addr} (e : (g.here H F O).H0 a = none) : g.H0 a = none := by
  unfold Gh.here at e
  dsimp only at e
  cases h : g.H0 a with
  | none => rfl
  | some u =>
    obtain ⟨u', hu⟩ := A.thr a u h
    cases ho : O a with
    | none => rw [ho, hu] at e; cases e
    | some w => cases w with
      | obj m => rw [ho, hu] at e; cases e
      | slot i => rw [A.slo a _ ho fun m z => by cases z] at h; cases h
      | tmp => rw [A.slo a _ ho fun m z => by cases z] at h; cases h
theorem here_some (A : Ab K g σ H ρ M F O) {a : Addr} {u : HO} (e : g.H0 a = some u) (n : ¬ g.own0 a) : (g.here H F O).H0 a = some u ∧ ¬ (g.here H F O).own0 a := by
  have h := A.frm a u e n
  have hO : O a = none := by
    cases ho : O a with
    | none => rfl
    | some w => rcases (A.liv a w ho).2.2 with z | z
                · exact absurd z n
                · rw [e] at z; cases z
  unfold Gh.here
  dsimp only
  rw [hO]
  exact ⟨h, fun ⟨m, z⟩ => by cases z⟩
theorem Ab.here (A : Ab K g σ H ρ M F O) : Ab K (g.here H F O) σ H ρ M F O :=
  { sub := A.sub, ext0 := Same.refl F, new := fun a u e => .inl e
    frm := fun a u e n => by
      unfold Gh.here at e
      dsimp only at e
      cases ho : O a with
      | none => rw [ho] at e; exact e
      | some w => cases w with
        | obj m => rw [ho] at e; exact e
        | slot i => rw [ho] at e; cases e
        | tmp => rw [ho] at e; cases e
    thr := fun a u e => by
      unfold Gh.here at e
      dsimp only at e
      cases ho : O a with
      | none => rw [ho] at e; exact ⟨u, e⟩
      | some w => cases w with
        | obj m => rw [ho] at e; exact ⟨u, e⟩
        | slot i => rw [ho] at e; cases e
        | tmp => rw [ho] at e; cases e
    liv := fun a w e => ⟨(A.liv a w e).1, (A.liv a w e).2.1, by
      unfold Gh.here
      dsimp only
      rw [e]
      cases w with
      | obj m => exact .inl ⟨m, rfl⟩
      | slot i => exact .inr rfl
      | tmp => exact .inr rfl⟩
    slo := fun a w e n => by
      unfold Gh.here
      dsimp only
      rw [e]
      cases w with
      | obj m => exact absurd rfl (n m)
      | slot i => rfl
      | tmp => rfl
    tm := A.tm, mu := A.mu, len := A.len, sl := A.sl }
theorem Ab.there (A : Ab K g σ H ρ M F O) (A' : Ab K (g.here H F O) σ' H' ρ' M' F' O') : Ab K g σ' H' ρ' M' F' O' :=
  { sub := A'.sub, ext0 := A.ext0.trans A'.ext0
    new := fun a u e => by
      rcases A'.new a u e with h | h
      · exact A.new a u h
      · exact .inr (here_none A h)
    frm := fun a u e n => let z := here_some A e n; A'.frm a u z.1 z.2
    thr := fun a u e => by
      cases h : (g.here H F O).H0 a with
      | some u' => exact A'.thr a u' h
      | none => rw [here_none A h] at e; cases e
    liv := fun a w e => ⟨(A'.liv a w e).1, (A'.liv a w e).2.1, by
      rcases (A'.liv a w e).2.2 with ⟨m, h⟩ | h
      · exact (A.liv a _ h).2.2
      · exact .inr (here_none A h)⟩
    slo := fun a w e n => here_none A (A'.slo a w e n)
    tm := A'.tm, mu := A'.mu, len := A'.len, sl := A'.sl }
theorem kept_at (A : Ab K g σ H ρ M F O) (hD : H D = some o) (hF : F D = none) (hO : O D = none) (A' : Ab K (g.here H F O) σ' H' ρ' M' F' O') : H' D = some o ∧ F' D = none ∧ O' D = none := by
  have h0 : (g.here H F O).H0 D = some o := by unfold Gh.here; dsimp only; rw [hO]; exact hD
  have n0 : ¬ (g.here H F O).own0 D := fun ⟨m, z⟩ => by rw [hO] at z; cases z
  refine ⟨A'.frm D o h0 n0, ?_, ?_⟩
  · cases h : F' D with
    | none => rfl
    | some u => rcases A'.new D u h with z | z
                · have z : F D = some u := z
                  rw [hF] at z; cases z
                · rw [h0] at z; cases z
  · cases h : O' D with
    | none => rfl
    | some w => rcases (A'.liv D w h).2.2 with z | z
                · exact absurd z n0
                · rw [h0] at z; cases z
theorem Ab.other (A : Ab K g σ H ρ M F O) (hF : F D = none) (hO : O D = none) (h0 : g.H0 D = none) : Ab K g σ (upd H D o) ρ M F O := by
  have ne : ∀ b w, O b = some w → b ≠ D := fun b w e z => by rw [z, hO] at e; cases e
  have ne0 : ∀ b u, g.H0 b = some u → b ≠ D := fun b u e z => by rw [z, h0] at e; cases e
  exact { sub := fun b u e => (upd_ne fun z => by rw [z, hF] at e; cases e).trans (A.sub b u e), ext0 := A.ext0, new := A.new
          frm := fun b u e n => (upd_ne (ne0 b u e)).trans (A.frm b u e n)
          thr := fun b u e => by
            obtain ⟨u', z⟩ := A.thr b u e
            exact ⟨u', (upd_ne (ne0 b u e)).trans z⟩
          liv := fun b w e => by
            obtain ⟨⟨u, z⟩, r⟩ := A.liv b w e
            exact ⟨⟨u, (upd_ne (ne b w e)).trans z⟩, r⟩
          slo := A.slo
          tm := fun p l e => by
            obtain ⟨xs, e1, e2, e3⟩ := A.tm p l e
            exact ⟨xs, (upd_ne (ne p _ e3)).trans e1, e2, e3⟩
          mu := fun b mo e => (A.mu b mo e).mono (Same.refl F) fun q u e1 e2 => ⟨(upd_ne (ne q _ e2)).trans e1, e2⟩
          len := A.len
          sl := fun j sv e => by
            obtain ⟨v, e1, r⟩ := A.sl j sv e
            exact ⟨v, e1, r.mono (Same.refl F) fun q xs e1 e2 => ⟨(upd_ne (ne q _ e2)).trans e1, e2⟩⟩ }
end
def compI (gd : PTG) (tt : PTT) (te : PTE) (ρ : Rho) : List D → List Int → Mm → (List Int → Mm → Prop) → Prop
  | [], acc, M, q => q acc M
  | x :: r, acc, M, q => gd x ρ fun ρ' => tt w0 ρ' M fun b M1 => if b = true then te w0 ρ' M1 fun y M2 => ∃ k : Int, y = .int k ∧ compI gd tt te ρ r (acc ++ [k]) M2 q else compI gd tt te ρ r acc M1 q
def dSortSet (vs : List Nat) (pl : PTA) (gd : PTG) (tt : PTT) (te : PTE) : PTA := fun w ρ M q => okW ρ vs = true ∧ pl w ρ M fun ds M1 => ds.length < 64 ∧ compI gd tt te (uns ρ vs) ds [] M1 fun ns M2 =>
  ∀ ms : List Int, ms.Pairwise (· < ·) → (∀ k, k ∈ ms ↔ k ∈ ns) → ms.length < 64 → q (ms.map .int) M2
theorem compI_at {gd : PTG} {tt : PTT} {te : PTE} {ρ : Rho} {ds : List D} {acc : List Int} {M : Mm} {q : List Int → Mm → Prop} {i : Nat} {d : D} (h : ds[i]? = some d) (k : compI gd tt te ρ (ds.drop i) acc M q) :
    gd d ρ fun ρ' => tt w0 ρ' M fun b M1 => if b = true then te w0 ρ' M1 fun y M2 => ∃ k : Int, y = .int k ∧ compI gd tt te ρ (ds.drop (i + 1)) (acc ++ [k]) M2 q else compI gd tt te ρ (ds.drop (i + 1)) acc M1 q := by
  obtain ⟨hi, e⟩ := List.getElem?_eq_some_iff.mp h
  rw [List.drop_eq_getElem_cons hi, e] at k
  exact k
theorem memS_app {acc : List Int} {k : Int} : (fun j : Int => decide (j ∈ acc) || decide (j = k)) = fun j => decide (j ∈ acc ++ [k]) := by
  funext j
  rw [← Bool.decide_or]
  exact decide_eq_decide.mpr (by simp)
section
variable {X : Cx} {W : WX} {elt tg iter : Expr} {ifs : List Expr} {scope : Scope} {own : List (Str × Nat)} {pos p pos2 : Pos} {pl : PTA} {gd : PTG} {tt : PTT} {te : PTE} {is vs : List Nat}
theorem scI_run {K : PySem.W.Frag} {w : World} (hsub : ∀ j ∈ is, j ∈ vs) {σ : L2.St} {H : Hp} {Q : VK} (h : realL K W (dSortSet vs pl gd tt te) σ H Q) :
    tScI w (realI K W pl) (realG K is gd) (realT K W0 tt) (real K W0 te) vs σ H fun x H1 => rSortedSet w [x] H1 Q := by
  obtain ⟨g, ρ, M, F, O, q, ww, A, ⟨hW, pr⟩, hw, k⟩ := h
  refine ⟨g, ρ, M, F, O, _, ww, A, pr, hw, fun J H1 F1 O1 M1 ds A1 s1 wk q1 => fun D hD => ?_⟩
  obtain ⟨hlen, q1⟩ := q1
  have hF := A1.f0 hD
  have hO := A1.o0 hD
  have h0 := A1.g0 hD
  have A2 := (A1.laid (o := SetO w D (fun _ => false) 0) hD).wiped vs
  refine ⟨fun i m H' => ∃ M' F' O' acc n, Ab K g (wipe σ vs) H' (uns ρ vs) M' F' O' ∧ Same F1 F' ∧ i ≤ ds.length ∧ m = ds.length - i ∧ H' D = some (SetO w D (fun j => decide (j ∈ acc)) n) ∧ n ≤ i ∧ F' D = none ∧ O' D = none ∧ compI gd tt te (uns ρ vs) (ds.drop i) acc M' _,
    ⟨ds.length, M1, F1, O1, [], 0, A2, Same.refl F1, Nat.zero_le _, rfl, by
      have e : (fun j : Int => decide (j ∈ ([] : List Int))) = fun _ => false := by funext j; exact decide_eq_false (by simp)
      rw [e]; exact upd_same, Nat.le_refl _, hF, hO, q1⟩, ?_⟩
  rintro i m H2 ⟨M2, F2, O2, acc, n, A3, s3, hi2, rfl, e3, hn, f3, o3, q2⟩
  by_cases hlt : i < ds.length
  · have B := A3.here
    refine .inr ⟨wk.go _ _ _ _ _ _ _ i B s3 hlt, fun x H3 y3 => ?_⟩
    have hd := List.getElem?_eq_getElem hlt
    obtain ⟨F3, B4, s4, r4⟩ := wk.yl _ _ _ _ _ _ _ i x H3 _ B s3 y3 hd
    refine ⟨_, uns ρ vs, M2, F3, O2, _, _, B4, r4, compI_at hd q2, fun σ5 ρ5 B5 n5 l5 q5 => ?_⟩
    have ew : wipe σ5 vs = wipe σ vs := wipe_eq (by rw [l5, wipe_length]) fun j hj => (n5 j fun z => hj (hsub j z)).1
    have back : ∀ {H' : Hp} {M' : Mm} {F' : Hp} {O' : Own}, Ab K g σ5 H' ρ5 M' F' O' → Ab K g (wipe σ vs) H' (uns ρ vs) M' F' O' := fun {H' M' F' O'} Z => by
      have Z2 := Z.wiped vs
      rw [ew] at Z2
      refine Z2.congr (by rw [uns_len, uns_len, B5.len, l5, wipe_length, ← A1.len]) fun j => ?_
      by_cases hj : j ∈ vs
      · rw [gt_uns.2 hj, gt_uns.2 hj]
      · rw [gt_uns.1 hj, gt_uns.1 hj]
        have z := (n5 j fun z => hj (hsub j z)).2
        rw [gt_uns.1 hj] at z
        exact z.symm
    refine ⟨ew, _, ρ5, M2, F3, O2, _, w0, B5, q5, fun _ _ _ _ _ _ _ _ _ _ _ _ z => z, fun b H6 F6 O6 M6 B6 s6 q6 => ?_⟩
    cases b with
    | false =>
      rw [if_neg Bool.false_ne_true] at q6 ⊢
      obtain ⟨z1, z2, z3⟩ := kept_at A3 e3 f3 o3 B6
      exact ⟨ds.length - (i + 1), by omega, M6, F6, O6, acc, n, back (A3.there B6), (s3.trans s4).trans s6, hlt, rfl, z1, Nat.le_succ_of_le hn, z2, z3, q6⟩
    | true =>
      rw [if_pos rfl] at q6 ⊢
      refine ⟨_, ρ5, M6, F6, O6, _, w0, B6, q6, fun _ _ _ _ _ _ _ _ _ _ _ _ z => z, fun v H7 F7 O7 M7 d B7 s7 r7 q7 => ?_⟩
      obtain ⟨kk, rfl, q7⟩ := q7
      obtain ⟨z1, z2, z3⟩ := kept_at A3 e3 f3 o3 B7
      refine ⟨kk, _, n, r7, z1, ?_, ds.length - (i + 1), by omega, M7, F7, O7, acc ++ [kk], (if decide (kk ∈ acc) = true then n else n + 1), back ((A3.there B7).other z2 z3 h0), ((s3.trans s4).trans s6).trans s7, hlt, rfl, ?_, ?_, z2, z3, q7⟩
      · have : (64 : Nat) < scanBound := by decide
        omega
      · rw [← memS_app]; exact upd_same
      · split <;> omega
  · have e : i = ds.length := by omega
    subst e
    rw [List.drop_length] at q2
    refine .inl ⟨wk.sp _ _ _ _ _ _ _ A3 s3, ?_⟩
    have A4 := A3.unwiped A1 s3 hW
    refine ⟨D, _, n, rfl, e3, by omega, fun ns a h1 h2 h3 h4 => ?_⟩
    have q3 := q2 ns h1 (fun j => (h2 j).trans decide_eq_true_iff) (by omega)
    exact k a (ns.map V.int) _ F2 O2 M2 _ (A4.laid h4) (s1.trans s3) upd_same (RpL.of_ints ns) (A4.f0 h4) (A4.o0 h4) (A4.g0 h4) q3
theorem dl_sortSet (hc : X.calm = true) (hN : X.N.Nodup) (hi : DI X W tg iter pl) (ok : BlkOk X.N X.env.scope scope own)
    (hg : ∀ (s : Shared) (H : Hp) (C : Addr) (cs : List (Str × Addr)) (fp : List Addr), DG (X.blk s H scope (compEnvC scope cs C X.env) fp) tg is gd)
    (ht : ∀ (s : Shared) (H : Hp) (C : Addr) (cs : List (Str × Addr)) (fp : List Addr), DTs (X.blk s H scope (compEnvC scope cs C X.env) fp) W0 ifs tt)
    (he : ∀ (s : Shared) (H : Hp) (C : Addr) (cs : List (Str × Addr)) (fp : List Addr), DE (X.blk s H scope (compEnvC scope cs C X.env) fp) W0 elt te)
    (hgl : Gl X "sorted") (hm : X.mg "sorted" = none) (hsub : ∀ j ∈ is, j ∈ own.map (·.2) := by decide)
    (hs : ∀ x, foldedSetIterable iter X.env x = pure x := by intro _; rfl)
    (hst : starEach [Expr.SetComp elt [⟨tg, iter, ifs, 0⟩] scope pos] X.env = (false, eval (.SetComp elt [⟨tg, iter, ifs, 0⟩] scope pos) X.env) :: starEach [] X.env := by rfl) (hpl : (backTo pos2 (starEach [] X.env)).any (·.1) = false := by rfl) :
    DL X W (.Call (.Name "sorted" p) [.SetComp elt [⟨tg, iter, ifs, 0⟩] scope pos] [] pos2) (dSortSet (own.map (·.2)) pl gd tt te) :=
  pe_imp (pe_callB (cr_sortedSet hc) hgl hm (by decide +kernel) (pa_cons (pe_scI hc hN hi ok hg ht he hs) pa_nil hst) (by decide) (by decide) hst hpl) fun σ H Q h => scI_run hsub h
end
end Px
set_option Elab.async false
set_option linter.all false
set_option maxRecDepth 100000
namespace Px
open PySem PySem.Spec PyProof.Rows L2
end Px
set_option Elab.async false
set_option linter.all false
set_option maxRecDepth 100000
namespace Px
open PySem PySem.Spec PyProof.Rows L2
section
variable {K : PySem.W.Frag} {F F' : Hp}
end
abbrev PC := PX → Mm → PQ → Prop
def actOf (c : PC) (i : Nat) (cl : D) : PTE := fun w ρ M k => gt ρ i = some (.val cl) ∧ ∃ (e : PX) (q : PQ), c e M q ∧ (∀ cls fs M', e cls fs M' → w cls fs ρ M') ∧ ∀ d M', q d M' → k d M'
def actIn (Z : Cx) (a : Str) (c : PC) (cl : D) : Prop := ∀ (pn : List (Addr × Obj)) (xe : Value → Shared → Prop) (W : WX) (p1 p2 : Pos), Takes (Z.tr pn xe) W → DE (Z.tr pn xe) W (.Call (.Name a p1) [] [] p2) (actOf c 0 cl)
def toSpC (K : PySem.W.Frag) (TT : PC → PC) (c : PC) (cl : D) (v : V) : Hp → VK → XK → Prop := fun H Q E => ∃ g F M O q e, Wd K g H M F O ∧ Rp K F cl v ∧ TT c e M q ∧
  (∀ v H' F' O' M' d, Aft K H F O H' M' F' O' → Rp K F' d v → q d M' → Q v H') ∧
  (∀ cls dd H' F' O' M' fs, Aft K H F O H' M' F' O' → ExOk K F' dd fs → e cls fs M' → E cls dd H')
section
variable (P : Program) (w : World) (K : PySem.W.Frag) (mg : Str → Option Value) (base : Heap)
structure FnC (j : Nat) (f : Addr) (fd : FuncData) (a qual : Str) (stm : Stmt) (N : List Str) (TT : PC → PC) : Prop where
  run : ∀ (A : Around) (outer : List Env) (s : Shared) (H : Hp) (u : Value) (cl : D) (v : V) (c : PC) (Q : VK) (E : XK), Room (j + 1) A → A.guards = some [] → Env0 P w K mg base A outer s H → BindsTo s fd ⟨[u], []⟩ [(a, u)] → RelV v u →
    (∀ cdv, Room j (A.deeper (envOfC qual (defScope stm) s.heap.objs.size f cdv)) → actIn (cxOf (L2.CX P w) P w K mg base N qual (defScope stm) f cdv A outer s H E) a c cl) → toSpC K TT c cl v H Q E →
    codeAny (model P w) A (.call (.ref f) ⟨[u], []⟩) (CR (L2.CX P w) outer P w H s Q E) s
end
section
variable {P : Program} {w : World} {K : PySem.W.Frag} {mg : Str → Option Value} {base : Heap} {j : Nat} {f : Addr} {fd : FuncData} {N : List Str}
end
section
variable {X : Cx} {pins : List (Addr × Obj)} {σ : L2.St} {H : Hp} {s : Shared} {ρ : Rho} {g : Addr} {cdg : Value} {qg : Str} {sg : Scope} {Ng : List Str} {Eg : XK} {k : Nat}
end
section
variable {X : Cx} {W : WX} {k : Nat} {g c P : Addr} {fd : FuncData} {a x qual qn : Str} {stm : Stmt} {N : List Str} {TT : PC → PC} {prm : Arguments} {bd : Expr} {scp : Scope} {lp p pos : Pos} {pb : PTE}
end
end Px
set_option Elab.async false
set_option linter.all false
set_option maxRecDepth 100000
namespace Px
open PySem PySem.Spec PyProof.Rows L2
section
variable {X : Cx} {pins : List (Addr × Obj)} {σ : L2.St} {H : Hp} {s sI : Shared} {a : Addr} {cls : Value} {d : Option Addr} {oe : Obj} {vs : Array Value}
end
structure Cla where
  c : Value
  i : Option Nat
  t : Addr → Value → Option Addr → TS
inductive ClaOk (X : Cx) : List ExceptHandler → List Cla → Prop
  | nil : ClaOk X [] []
  | bare {x : Str} {c : Value} {t : Addr → Value → Option Addr → TS} {b₀ : Stmt} {su : List Stmt} {np cp : Pos} {hds : List ExceptHandler} {l : List Cla} (hc : Names X x c)
      (hsu : ∀ a cls d pn, PSs (X.suite a pn) (b₀ :: su) (t a cls d)) (r : ClaOk X hds l) : ClaOk X (.ExceptHandler (some (.Name x np)) none (b₀ :: su) cp :: hds) (⟨c, none, t⟩ :: l)
  | named {x n : Str} {i : Nat} {c : Value} {t : Addr → Value → Option Addr → TS} {b₀ : Stmt} {su : List Stmt} {np cp : Pos} {hds : List ExceptHandler} {l : List Cla} (hc : Names X x c) (hi : X.N[i]? = some n) (hl : X.env.kindOf n = some .local)
      (hsu : ∀ a cls d pn, PSs (X.suite a pn) (b₀ :: su) (t a cls d)) (r : ClaOk X hds l) : ClaOk X (.ExceptHandler (some (.Name x np)) (some n) (b₀ :: su) cp :: hds) (⟨c, some i, t⟩ :: l)
section
variable {X : Cx} {body : List Stmt} {h₀ : ExceptHandler} {hds : List ExceptHandler} {l : List Cla} {pos : Pos} {tb : WX → TS} {Wo : WX}
end
end Px
set_option Elab.async false
set_option linter.all false
set_option maxRecDepth 100000
namespace Px
open PySem PySem.Spec PyProof.Rows L2
section
variable {K : PySem.W.Frag} {g : Gh} {σ : L2.St} {H : Hp} {ρ : Rho} {M : Mm} {F : Hp} {O : Own}
end
structure PCl where
  tb : Value → Bool → Prop
  i : Option Nat
  p : PTS
inductive PClOk (X : Cx) : List ExceptHandler → List PCl → Prop
  | nil : PClOk X [] []
  | bare {x : Str} {c : Value} {tb : Value → Bool → Prop} {p : PTS} {b₀ : Stmt} {su : List Stmt} {np cp : Pos} {hds : List ExceptHandler} {l : List PCl} (hc : Names X x c) (ht : ∀ cls b, tb cls b → PySem.W.exmOne X.K cls c = some b)
      (hsu : ∀ a pn, DSs (X.suite a pn) (fun _ _ _ _ => False) (b₀ :: su) p) (r : PClOk X hds l) : PClOk X (.ExceptHandler (some (.Name x np)) none (b₀ :: su) cp :: hds) (⟨tb, none, p⟩ :: l)
  | named {x n : Str} {i : Nat} {c : Value} {tb : Value → Bool → Prop} {p : PTS} {b₀ : Stmt} {su : List Stmt} {np cp : Pos} {hds : List ExceptHandler} {l : List PCl} (hc : Names X x c) (ht : ∀ cls b, tb cls b → PySem.W.exmOne X.K cls c = some b)
      (hi : X.N[i]? = some n) (hl : X.env.kindOf n = some .local) (hsu : ∀ a pn, DSs (X.suite a pn) (fun _ _ _ _ => False) (b₀ :: su) p) (r : PClOk X hds l) : PClOk X (.ExceptHandler (some (.Name x np)) (some n) (b₀ :: su) cp :: hds) (⟨tb, some i, p⟩ :: l)
section
variable {X : Cx} {W : WX} {body : List Stmt} {h₀ : ExceptHandler} {hds : List ExceptHandler} {l : List PCl} {pos : Pos} {pb : PTS}
end
end Px
set_option Elab.async false
set_option linter.all false
set_option maxRecDepth 100000
namespace Px
open PySem PySem.Spec PyProof.Rows L2
section
variable {X : Cx} {W : WX} {tg a b c : Expr} {rest : List Expr} {pa pb pc : PTE} {pos p : Pos}
end
end Px
set_option Elab.async false
set_option linter.all false
set_option maxRecDepth 100000
namespace Px
open PySem PySem.Spec PyProof.Rows L2
theorem WOk.here {K : PySem.W.Frag} {g : Gh} {σ : L2.St} {H F : Hp} {ρ : Rho} {M : Mm} {O : Own} {W : WX} {w : PWi} (A : Ab K g σ H ρ M F O) (h : WOk K g F W w) : WOk K (g.here H F O) F W w :=
  fun cls dd σ' H' ρ' M' F' O' fs A' s x y => h cls dd σ' H' ρ' M' F' O' fs (A.there A') s x y
section
variable {X : Cx} {W : WX} {pa pb pc : PTE}
end
end Px
set_option Elab.async false
set_option linter.all false
set_option maxRecDepth 100000
namespace Px
open PySem PySem.Spec PyProof.Rows L2
def delM (M : Mm) (p : Addr) : Mm := fun b => if b = p then none else M b
section
variable {K : PySem.W.Frag} {g : Gh} {σ : L2.St} {H : Hp} {F : Hp} {ρ : Rho} {M : Mm} {O : Own} {p : Addr} {mo : Mo}
theorem Ab.dropMo (A : Ab K g σ H ρ M F O) (hO : O p = some (.obj p)) : Ab K g σ H ρ (delM M p) F (fun b => if b = p then none else O b) := by
  have keep : ∀ b u, O b = some u → u ≠ .obj p → (if b = p then none else O b) = some u := fun b u e n => by
    rw [if_neg fun z => by rw [z, hO] at e; exact n (Option.some.inj e).symm]; exact e
  have back : ∀ b u, (if b = p then none else O b) = some u → O b = some u := fun b u e => by
    by_cases z : b = p
    · rw [if_pos z] at e; cases e
    · rw [if_neg z] at e; exact e
  exact { sub := A.sub, ext0 := A.ext0, new := A.new, frm := A.frm, thr := A.thr
          liv := fun b u e => A.liv b u (back b u e)
          slo := fun b u e n => A.slo b u (back b u e) n
          tm := fun q l e => by
            obtain ⟨xs, e1, e2, e3⟩ := A.tm q l e
            exact ⟨xs, e1, e2, keep q _ e3 fun z => by cases z⟩
          mu := fun b m e => by
            have e' : (if b = p then none else M b) = some m := e
            by_cases z : b = p
            · rw [if_pos z] at e'; cases e'
            · rw [if_neg z] at e'
              exact (A.mu b m e').mono (Same.refl F) fun q u e1 e2 => ⟨e1, keep q _ e2 fun y => by injection y with y; exact z y⟩
          len := A.len
          sl := fun j sv e => by
            obtain ⟨v, e1, r⟩ := A.sl j sv e
            exact ⟨v, e1, r.mono (Same.refl F) fun q xs e1 e2 => ⟨e1, keep q _ e2 fun z => by cases z⟩⟩ }
end
def dMake (C : Addr) (sp : PSp) (pl : PTA) : PTE := fun w ρ M q => pl w ρ M fun ds M1 => ∀ a, M1 a = none →
  sp (.raw (.ref a) :: ds) (updM M1 a (.ins C [])) (fun d M2 => d = .non ∧ ∃ fs, M2 a = some (.ins C fs) ∧ q (.obj C (fs.map (·.1)) (fs.map (·.2))) (delM M2 a)) fun cls fs M2 => w cls fs ρ M2
section
variable {X : Cx} {W : WX} {k n : Nat} {f C : Addr} {fd : FuncData} {ps : List Str} {sp : PSp} {x : Str} {p pos : Pos} {e : Expr} {es : List Expr} {pl : PTA}
theorem run_makeG {sp : Sp} {pins : List (Addr × Obj)} {σ : L2.St} {H : Hp} {s : Shared} {Q : VK} {us : List Value} {vs : List V} (Mk : L2.Mk X.K C f) (Fg : FnG X.prog X.w X.K X.mg X.base k f fd ps sp) (hr : Room (k + 1) X.A) (hG : X.A.guards = some []) (hb : Binds X.K fd ps [])
    (tk : Takes X W) (I : Inv X pins σ H s) (r : Vals vs us) (h : ∀ a dx, H a = none → H dx = none → dx ≠ a → sp (.ref a :: vs) (upd (upd H dx (.own a)) a (.ins C dx [])) (fun v H2 => v = .non ∧ Q (.ref a) H2) fun cls d H' => W cls d σ H') :
    wpAny (model X.prog X.w) X.A (call (.ref C) us) (EP X pins σ Q) X.xe s := by
  have J := Inv.made (C := C) I
  have hq := h _ _ (I.hok.fresh (Nat.le_succ s.heap.objs.size)) (I.hok.fresh (Nat.le_refl _)) (Nat.ne_of_lt (Nat.lt_succ_self _))
  have rs : Vals (V.ref (s.heap.objs.size + 1) :: vs) (Value.ref (s.heap.objs.size + 1) :: us) := .cons rfl r
  have hl : ((Value.ref (s.heap.objs.size + 1) :: us) ++ []).length = ps.length := by
    rw [List.append_nil, ← rs.length]
    exact Fg.len _ _ _ _ hq
  have bd := hb _ (Value.ref (s.heap.objs.size + 1) :: us) J.kIn hl
  rw [List.append_nil] at bd
  refine wpAny_call (L2.make_map (f := f) I.kIn Mk.makes Mk.init (beq_iff_eq.mp Mk.fn) (codeAny_mono (Fg.run _ X.stack _ _ ⟨_ :: us, []⟩ _ _ _ _ (hr.make C us []) hG (J.env0.make C us []) bd rs hq) fun o s2 ho => ?_))
  cases o with
  | error er => exact tk er s2 (XE.of_call J (fun _ _ _ z => z) ho)
  | ok fl =>
    cases fl with
    | ret u =>
      obtain ⟨v, H2, I2, rv, ev, q2⟩ := J.after ho
      rw [ev] at rv
      exact ⟨rv, V.ref _, H2, I2, rfl, q2⟩
    | next => exact ho.elim
    | brk => exact ho.elim
    | cont => exact ho.elim
theorem make_reading {K : PySem.W.Frag} {g : Gh} {σ : L2.St} {H : Hp} {ρ : Rho} {M : Mm} {F : Hp} {O : Own} {w : PWi} {q : PQ} {ds : List D} {vs : List V} {Q : VK} {a dx : Addr} (ha : H a = none) (hd : H dx = none) (ne : dx ≠ a) (A : Ab K g σ H ρ M F O) (hw : WOk K g F W w) (r : RpL K F ds vs) (hl : ds.length + 1 = n)
    (h : sp (.raw (.ref a) :: ds) (updM M a (.ins C [])) (fun d M2 => d = .non ∧ ∃ fs, M2 a = some (.ins C fs) ∧ q (.obj C (fs.map (·.1)) (fs.map (·.2))) (delM M2 a)) fun cls fs M2 => w cls fs ρ M2)
    (k : ∀ v H' F' O' M' d, Ab K g σ H' ρ M' F' O' → Same F F' → Rp K F' d v → q d M' → Q v H') :
    toSp K n sp (.ref a :: vs) (upd (upd H dx (.own a)) a (.ins C dx [])) (fun v H2 => v = .non ∧ Q (.ref a) H2) fun cls d H' => W cls d σ H' := by
  have A1 := A.laid (o := .own a) hd
  have ha1 : upd H dx (.own a) a = none := (upd_ne (Ne.symm ne)).trans ha
  have A2 := A1.newMo (o := .ins C dx []) (mo := .ins C []) ha1 ⟨dx, [], upd_same, if_pos rfl, rfl, rfl⟩
  refine ⟨g, F, _, _, .raw (.ref a) :: ds, _, _, by rw [List.length_cons, ← r.len, hl], A2.toWd, ⟨_, vs, rfl, rfl, r⟩, h, fun v H' F' O' M' d B rd hq => ?_, fun cls dd H' F' O' M' fs B xk hq => ?_⟩
  · obtain ⟨rfl, fs, hM, hq⟩ := hq
    obtain ⟨O2, A3, s⟩ := A2.after B
    obtain ⟨dx', ys, e1, e2, e3, e4⟩ := A3.mu a _ hM
    have hF := (A3.liv a _ e2).2.1
    have A4 := (A3.dropMo e2).freeze e1 hF (if_pos rfl) (A.g0 ha)
    have s2 := s.trans (same_new (o := .ins C dx' ys) hF)
    exact ⟨rd, k (.ref a) H' _ _ _ (.obj C (fs.map (·.1)) (fs.map (·.2))) A4 s2 ⟨a, dx', ys, rfl, upd_same, e3, RpL.mono (same_new hF) _ _ e4⟩ hq⟩
  · obtain ⟨O2, A3, s⟩ := A2.after B
    exact hw cls dd σ H' ρ M' F' O2 fs A3 s xk hq
theorem de_make (Mk : L2.Mk X.K C f) (Fg : FnG X.prog X.w X.K X.mg X.base k f fd ps (toSp X.K n sp)) (hlen : ∀ ds M q e, sp ds M q e → ds.length = n) (hr : Room (k + 1) X.A) (hG : X.A.guards = some []) (hg : Gl X x) (hm : X.mg x = some (.ref C))
    (hb : Binds X.K fd ps []) (tk : Takes X W) (ha : DA X W (e :: es) pl) (hdb : (x == ("__debug__" : Str)) = false := by decide)
    (he : starEach (e :: es) X.env = (false, eval e X.env) :: starEach es X.env := by rfl) (hpl : (backTo pos (starEach es X.env)).any (·.1) = false := by rfl) : DE X W (.Call (.Name x p) (e :: es) [] pos) (dMake C sp pl) := by
  refine ⟨fun pins s σ H Q I ⟨g, ρ, M, F, O, q, w, A, pr, hw, kk⟩ => ?_⟩
  refine wpAny_Call_Name_kw (ld_glob I hg hm ?_ hdb)
  refine PySem.W.callWith_K (h₀ := X.base) I.ok.mod.kin Mk.kp (thn (ha.run pos pins s σ H (fun vs H1 => ∀ a dx, H1 a = none → H1 dx = none → dx ≠ a → toSp X.K n sp (.ref a :: vs) (upd (upd H1 dx (.own a)) a (.ins C dx [])) (fun v H2 => v = .non ∧ Q (.ref a) H2) fun cls d H' => W cls d σ H') I ?_) fun us s1 hh => ?_) he hpl
  · refine ⟨g, ρ, M, F, O, _, w, A, pr, hw, fun vs H1 F1 O1 M1 d1 A1 s1 r1 q1 a dx h1 h2 h3 => ?_⟩
    have hM : M1 a = none := A1.m0 h1
    have q2 := q1 a hM
    exact make_reading h1 h2 h3 A1 (hw.mono s1) r1 (by have := hlen _ _ _ _ q2; rw [List.length_cons] at this; exact this) q2 fun v H2 F2 O2 M2 d2 A2 s2 r2 z => kk v H2 F2 O2 M2 d2 A2 (s1.trans s2) r2 z
  · obtain ⟨vs, H1, I1, r, q1⟩ := hh
    exact ⟨I1.kIn, run_makeG Mk Fg hr hG hb tk I1 r q1⟩
end
end Px
set_option Elab.async false
set_option linter.all false
set_option maxRecDepth 100000
namespace Px
open PySem PySem.Spec PyProof.Rows L2
theorem look_rel {K : PySem.W.Frag} {F : Hp} {f : Str} {d : D} : ∀ (ns : List Str) (l : List D) (ys : List (Str × V)), ys.map (·.1) = ns → RpL K F l (ys.map (·.2)) → (ns.zip l).lookup f = some d → ∃ v, ys.lookup f = some v ∧ Rp K F d v
  | [], _, _, _, _, h => by
    rw [List.zip_nil_left] at h
    cases h
  | n :: ns, [], _, _, _, h => by
    rw [List.zip_nil_right] at h
    cases h
  | n :: ns, x :: l, [], e, _, _ => by cases e
  | n :: ns, x :: l, (m, v) :: ys, e, r, h => by
    injection e with e1 e2
    have e1 : m = n := e1
    subst e1
    obtain ⟨v', vr, e3, r1, r2⟩ := r
    injection e3 with e4 e5
    subst e4
    subst e5
    rw [List.zip_cons_cons, List.lookup_cons] at h
    rw [List.lookup_cons]
    cases c : f == m with
    | true =>
      rw [c] at h
      cases h
      exact ⟨v, rfl, r1⟩
    | false =>
      rw [c] at h
      exact look_rel ns l ys e2 r2 h
theorem zip_fs : ∀ fs : List (Str × D), (fs.map (·.1)).zip (fs.map (·.2)) = fs
  | [] => rfl
  | (n, d) :: r => by rw [List.map_cons, List.map_cons, List.zip_cons_cons, zip_fs r]
def fldAt (C : Addr) (f : Str) (d : D) (M : Mm) (k : D → Prop) : Prop := match d with
  | .obj C' ns l => C' = C ∧ ∃ v, (ns.zip l).lookup f = some v ∧ k v
  | .raw (.ref a) => ∃ fs v, M a = some (.ins C fs) ∧ fs.lookup f = some v ∧ k v
  | _ => False
def dFld (C : Addr) (f : Str) (pe : PTE) : PTE := fun w ρ M q => pe w ρ M fun d M1 => fldAt C f d M1 fun v => q v M1
theorem fld_is {K : PySem.W.Frag} {g : Gh} {σ : L2.St} {H : Hp} {ρ : Rho} {M : Mm} {F : Hp} {O : Own} {C : Addr} {f : Str} {d : D} {u : V} {k : D → Prop} (A : Ab K g σ H ρ M F O) (r : Rp K F d u) (h : fldAt C f d M k) :
    ∃ a dx fs v d', u = .ref a ∧ H a = some (.ins C dx fs) ∧ fs.lookup f = some v ∧ Rp K F d' v ∧ k d' := by
  unfold fldAt at h
  split at h
  · obtain ⟨rfl, d', h1, h2⟩ := h
    obtain ⟨a, dx, fs, e, e1, e2, e3⟩ := r
    obtain ⟨v, e4, e5⟩ := look_rel _ _ fs e2 e3 h1
    exact ⟨a, dx, fs, v, d', e, A.sub _ _ e1, e4, e5, h2⟩
  · rename_i a
    obtain ⟨fs, d', h1, h2, h3⟩ := h
    obtain ⟨dx, ys, e1, e2, e3, e4⟩ := A.mu a _ h1
    obtain ⟨v, e5, e6⟩ := look_rel (fs.map (·.1)) (fs.map (·.2)) ys e3 e4 (by rw [zip_fs]; exact h2)
    exact ⟨a, dx, ys, v, d', r, e1, e5, e6, h3⟩
  · exact h.elim
def putFD (f : Str) (v : D) : List (Str × D) → List (Str × D)
  | [] => [(f, v)]
  | (g, x) :: r => if g = f then (g, v) :: r else (g, x) :: putFD f v r
theorem put_rel {K : PySem.W.Frag} {F : Hp} {f : Str} {d : D} {v : V} (hv : Rp K F d v) : ∀ (fs : List (Str × D)) (ys : List (Str × V)), ys.map (·.1) = fs.map (·.1) → RpL K F (fs.map (·.2)) (ys.map (·.2)) →
    (putF f v ys).map (·.1) = (putFD f d fs).map (·.1) ∧ RpL K F ((putFD f d fs).map (·.2)) ((putF f v ys).map (·.2))
  | [], [], _, _ => ⟨rfl, v, [], rfl, hv, rfl⟩
  | [], _ :: _, e, _ => by cases e
  | _ :: _, [], e, _ => by cases e
  | (n, x) :: fs, (m, y) :: ys, e, r => by
    injection e with e1 e2
    have e1 : m = n := e1
    subst e1
    obtain ⟨v', vr, e3, r1, r2⟩ := r
    injection e3 with e4 e5
    subst e4
    subst e5
    unfold putFD putF
    by_cases c : m = f
    · rw [if_pos c, if_pos c]
      exact ⟨by rw [List.map_cons, List.map_cons, e2], v, _, rfl, hv, r2⟩
    · rw [if_neg c, if_neg c]
      obtain ⟨i1, i2⟩ := put_rel (f := f) hv fs ys e2 r2
      exact ⟨by rw [List.map_cons, List.map_cons, i1], y, _, rfl, r1, i2⟩
def insAt (C : Addr) (d : D) (M : Mm) (k : Addr → List (Str × D) → Prop) : Prop := match d with
  | .raw (.ref a) => ∃ fs, M a = some (.ins C fs) ∧ k a fs
  | _ => False
theorem insAt_of {C : Addr} {d : D} {M : Mm} {k : Addr → List (Str × D) → Prop} (h : insAt C d M k) : ∃ a fs, d = .raw (.ref a) ∧ M a = some (.ins C fs) ∧ k a fs := by
  unfold insAt at h
  split at h
  · obtain ⟨fs, h1, h2⟩ := h
    exact ⟨_, fs, rfl, h1, h2⟩
  · exact h.elim
def dFldSet (C : Addr) (f : Str) (pe po : PTE) : PTS := fun w P ρ M => pe w ρ M fun d M1 => po w ρ M1 fun o M2 => insAt C o M2 fun a fs => fs.length < 1000 ∧ P.nx ρ (updM M2 a (.ins C (putFD f d fs)))
section
variable {X : Cx} {W : WX} {C : Addr} {f : Str} {e o value : Expr} {pos pos' : Pos} {pe po : PTE}
theorem de_fld (hc : Cls X.K C) (hn : NoAttr X.K C f) (he : DE X W e pe) (hb : attributeBase e f X.env (eval e X.env) = eval e X.env := by rfl) : DE X W (.Attribute e f pos) (dFld C f pe) :=
  pe_imp (pe_fld he hb) fun σ H Q ⟨g, ρ, M, F, O, q, w, A, pr, hw, k⟩ => ⟨g, ρ, M, F, O, _, w, A, pr, hw, fun v H1 F1 O1 M1 d A1 s1 r1 q1 => by
    obtain ⟨a, dx, fs, u, d', e1, e2, e3, e4, e5⟩ := fld_is A1 r1 q1
    exact ⟨a, C, dx, fs, u, e1, e2, hc, hn, e3, k u H1 F1 O1 M1 d' A1 s1 e4 e5⟩⟩
theorem ds_fldSet (hc : Cls X.K C) (hn : NoAttr X.K C f) (ho : DE X W o po) (hv : DE X W value pe) (hs : swapsWith value (some (.Attribute o f pos')) pos.line X.env = pure false := by rfl) : DS X W (.Assign [.Attribute o f pos'] value pos) (dFldSet C f pe po) :=
  ps_imp (ps_fld ho hv hs) fun D σ H ⟨g, ρ, M, F, O, P, w, A, h, hw, k1, _⟩ => ⟨g, ρ, M, F, O, _, w, A, h, hw, fun v H1 F1 O1 M1 d A1 s1 r1 q1 => ⟨g, ρ, M1, F1, O1, _, w, A1, q1, hw.mono s1, fun u H2 F2 O2 M2 z A2 s2 r2 q2 => by
    obtain ⟨a, fs, rfl, hM, hl, q3⟩ := insAt_of q2
    obtain ⟨dx, ys, e1, e2, e3, e4⟩ := A2.mu a _ hM
    have e : u = .ref a := r2
    obtain ⟨i1, i2⟩ := put_rel (f := f) (Rp.mono s2 _ _ r1) fs ys e3 e4
    have hlen : ys.length = fs.length := by
      have := congrArg List.length e3
      rw [List.length_map, List.length_map] at this
      exact this
    refine ⟨a, C, dx, ys, e, e1, hc, hn, by omega, ?_⟩
    exact k1 σ _ ρ _ F2 O2 (A2.setMo hM e2 (o := .ins C dx (putF f v ys)) (mo' := .ins C (putFD f d fs)) ⟨dx, _, upd_same, e2, i1, i2⟩) (s1.trans s2) q3⟩⟩
end
end Px
set_option Elab.async false
set_option linter.all false
set_option maxRecDepth 100000
namespace Px
open PySem PySem.Spec PyProof.Rows L2
section
variable {X : Cx} {W : WX} {k n : Nat} {f g p C : Addr} {fd : FuncData} {ps : List Str} {sp : PSp} {m pf : Str} {pos apos : Pos} {e o : Expr} {es : List Expr} {pe po : PTE} {pl : PTA}
theorem de_prop (hc : Cls X.K C) (hp : PropOf X.K C m p g) (Fo : FnOk X.prog X.w X.K X.mg X.base (fun _ _ _ _ _ _ => False) k g fd ps (getSp C pf)) (hr : Room (k + 1) X.A) (hb : Binds X.K fd ps []) (he : DE X W e pe)
    (hab : attributeBase e m X.env (eval e X.env) = eval e X.env := by rfl) : DE X W (.Attribute e m pos) (dFld C pf pe) :=
  pe_imp (pe_prop (E := fun _ _ _ => False) he hc hp Fo hr hb .nil (fun _ _ _ _ _ _ _ z => z.elim) hab) fun σ H Q ⟨g, ρ, M, F, O, q, w, A, pr, hw, kk⟩ => ⟨g, ρ, M, F, O, _, w, A, pr, hw, fun v H1 F1 O1 M1 d A1 s1 r1 q1 => by
    obtain ⟨a, dx, fs, u, d', e1, e2, e3, e4, e5⟩ := fld_is A1 r1 q1
    exact ⟨a, dx, fs, e1, e2, a, dx, fs, u, rfl, e2, e3, kk u H1 F1 O1 M1 d' A1 s1 e4 e5⟩⟩
theorem meth_reading {K : PySem.W.Frag} {g : Gh} {σ : L2.St} {H : Hp} {ρ : Rho} {M : Mm} {F : Hp} {O : Own} {w : PWi} {q : PQ} {d : D} {u : V} {ds : List D} {vs : List V} {Q : VK} (A : Ab K g σ H ρ M F O) (hw : WOk K g F W w)
    (ru : Rp K F d u) (r : RpL K F ds vs) (hl : (d :: ds).length = n) (h : sp (d :: ds) M q fun cls fs M2 => w cls fs ρ M2) (k : ∀ v H' F' O' M' d, Ab K g σ H' ρ M' F' O' → Same F F' → Rp K F' d v → q d M' → Q v H') :
    toSp K n sp (u :: vs) H Q fun cls d H' => W cls d σ H' := by
  have z := call_reading (dd := []) (dvs := []) (ps := List.replicate n "") (W := W) (List.length_replicate ..) (fun _ => rfl) A hw (show RpL K F (d :: ds) (u :: vs) from ⟨u, vs, rfl, ru, r⟩) (by rw [List.append_nil]; exact hl) (by rw [List.append_nil]; exact h) k
  rw [List.append_nil] at z
  exact z
end
end Px
set_option Elab.async false
set_option linter.all false
set_option maxRecDepth 100000
namespace Px
open PySem PySem.Spec PyProof.Rows L2
structure ExC (K : PySem.W.Frag) (C : Addr) : Prop where
  cl : (PySem.W.clsIn K C).isSome = true
  ga : PySem.W.findIn K (.ref C) "__getattribute__" = some (some (.builtin "BaseException.__getattribute__"))
  gt : PySem.W.findIn K (.ref C) "__getattr__" = some none
  su : PySem.W.subIn K (.ref C) (.type "BaseException") = some true
  hd : PySem.W.hasDictIn K C = true
  ca : PySem.W.findIn K (.ref C) "__class__" = some (some (.builtin "object.__class__"))
  cn : PySem.W.specialIn K (.builtin "object.__class__") "__get__" = some (some (.builtin "getset_descriptor.__get__"))
  ct : PySem.W.takesIn K (.builtin "object.__class__") = some true
  cm : PySem.W.mroIn K C (.type "object") = some true
section
variable {X : Cx} {pins : List (Addr × Obj)} {σ : L2.St} {H : Hp} {s : Shared} {a C : Addr} {d : Option Addr}
end
section
variable {X : Cx} {W : WX} {C : Addr} {a e : Expr} {pa pe : PTE} {p p2 pos : Pos} {x2 : Str}
end
section
variable {X : Cx} {W : WX} {o e : Expr} {po pe : PTE} {apos cpos : Pos}
theorem vw_tyL {K : PySem.W.Frag} {g : Gh} {σ : L2.St} {H : Hp} {ρ : Rho} {M : Mm} {F : Hp} {O : Own} {l : List D} {v : V} (A : Ab K g σ H ρ M F O) (r : Vw K σ ρ F (.lst l) v) : tyV K "list" v H := by
  obtain ⟨a, xs, e, h, _⟩ := r.lst A
  rw [e]
  exact .inl ⟨rfl, xs, .inl (.inl h)⟩
def dMtL (f : F2) (po pe : PTE) : PTE := fun w ρ M q => po w ρ M fun x M1 => (∃ l, x = .lst l) ∧ pe w ρ M1 fun y M2 => f x y fun z => q z M2
theorem mtl_run {r : V → List V → Hp → VK → Prop} {f : F2} (hf : OpF X.K (fun x y H Q => r x [y] H Q) f) {σ : L2.St} {H : Hp} {Q : VK} (h : real X.K W (dMtL f po pe) σ H Q) :
    tBM X.K "list" r (realO X.K W po) (tCons (realO X.K W pe) tNil) σ H Q := by
  obtain ⟨g, ρ, M, F, O, q, w, A, p, hw, k⟩ := h
  refine ⟨g, ρ, M, F, O, _, w, A, p, hw, fun v H1 F1 O1 M1 d A1 s1 r1 ⟨⟨l, e⟩, q1⟩ => ⟨by subst e; exact vw_tyL A1 r1, ?_⟩⟩
  refine ⟨g, ρ, M1, F1, O1, _, w, A1, q1, hw.mono s1, fun u H2 F2 O2 M2 y A2 s2 r2 q2 => ?_⟩
  exact hf g σ H2 ρ M2 F2 O2 d y v u _ Q A2 (r1.mono s2) r2 q2 fun z w3 H3 F3 O3 A3 s3 r3 q3 => k w3 H3 F3 O3 M2 z A3 ((s1.trans s2).trans s3) r3 q3
section
variable {K : PySem.W.Frag} {c : Value} {C D : Addr} {b : Bool} {n : Str}
end
end
end Px
set_option Elab.async false
set_option linter.all false
set_option maxRecDepth 100000
namespace Px
open PySem PySem.Spec PyProof.Rows L2
section
variable {P : Program} {w : World} {K : PySem.W.Frag} {mg : Str → Option Value} {base : Heap} {k : Nat} {f : Addr} {fd : FuncData} {ps N : List Str}
end
structure Mk where
  c : Addr
  p : Addr
  q : Str
section
variable {P : Program} {w : World} {K : PySem.W.Frag} {mg mb : Str → Option Value} {k : Nat} {fa a : Addr} {fd : FuncData} {x : Str} {s₁ : Shared} {vs : List Value} {ns : List Int} {ms : List Mk}
end
end Px
set_option Elab.async false
set_option linter.all false
set_option maxRecDepth 100000
namespace Px
open PySem PySem.Spec PyProof.Rows L2
end Px
set_option Elab.async false
set_option linter.all false
set_option maxRecDepth 100000
namespace Px
open PySem PySem.Spec PyProof.Rows L2
section
variable {K : PySem.W.Frag} {F : Hp}
theorem RpL.one {d : D} {x : V} (h : Rp K F d x) : RpL K F [d] [x] := ⟨x, [], rfl, h, rfl⟩
end
def chgR (ρ : Rho) (i : Nat) (f : List D → Option (List D)) (k : Rho → Prop) : Prop := match gt ρ i with | some (.own l) => l.length < 1000000 ∧ ∃ l', f l = some l' ∧ k (st ρ i (.own l')) | _ => False
def setF (d x : D) (l : List D) : Option (List D) := match d with | .int n => (ixN l.length n).map fun j => l.set j x | _ => none
def dSetA (i : Nat) (pe pi : PTE) : PTS := fun w P ρ M => isOwn ρ i ∧ pe w ρ M fun x M1 => pi w ρ M1 fun d M2 => chgR ρ i (setF d x) fun ρ' => P.nx ρ' M2
section
variable {X : Cx} {W : WX} {e f : Expr} {pe pf : PTE} {pos p1 p2 p3 : Pos}
def fCatL : D → D → (List D → Prop) → Prop
  | .lst a, .lst b, k => a.length + b.length ≤ 1000000 ∧ k (a ++ b)
  | _, _, _ => False
def dG2 (f : D → D → (List D → Prop) → Prop) (pa pb : PTE) : PTA := fun w ρ M q => pa w ρ M fun x M1 => pb w ρ M1 fun y M2 => f x y fun z => q z M2
theorem dl_cat (ha : DO X W e pe) (hb : DO X W f pf) : DL X W (.BinOp e .Add f pos) (dG2 fCatL pe pf) := pe_imp (pe_op op_cat ha hb) fun σ H Q ⟨g, ρ, M, F, O, q, w, A, p, hw, k⟩ =>
  ⟨g, ρ, M, F, O, _, w, A, p, hw, fun v H1 F1 O1 M1 x A1 s1 r1 q1 => ⟨g, ρ, M1, F1, O1, _, w, A1, q1, hw.mono s1, fun u H2 F2 O2 M2 y A2 s2 r2 q2 => by
    have r1' := r1.mono s2
    unfold fCatL at q2
    split at q2
    · obtain ⟨l, xs, e1, h1, t1⟩ := r1'.lst A2
      obtain ⟨b, ys, e2, h2, t2⟩ := r2.lst A2
      refine ⟨l, b, xs, ys, e1, e2, h1, h2, by rw [← t1.len, ← t2.len]; exact line_big q2.1, fun p hp => ?_⟩
      exact k p (xs ++ ys) _ F2 O2 M2 _ (A2.laid hp) (s1.trans s2) upd_same (t1.app t2) (A2.f0 hp) (A2.o0 hp) (A2.g0 hp) q2.2
    · exact q2.elim⟩⟩
end
end Px
set_option Elab.async false
set_option linter.all false
set_option maxRecDepth 100000
namespace Px
open PySem PySem.Spec PyProof.Rows L2
section
variable {P : Program} {w : World} {K : PySem.W.Frag} {mg : Str → Option Value} {base : Heap} {k : Nat} {f : Addr} {fd : FuncData} {ps N : List Str} {dvs : List V}
theorem FunD.gok {x qual : Str} {stm : Stmt} {sp : Sp} (Fn : L2.FunD K x qual (defArgs stm) (defBody stm) (defScope stm) dvs [] f fd) (S : FnScope N ps (defScope stm)) (hn : ∀ vs H Q E, sp vs H Q E → vs.length = ps.length)
    (hbody : ∀ (cdv : Value) (A : Around) (outer : List Env) (s : Shared) (H : Hp) (vs : List V) (Q : VK) (E : XK), Room k (A.deeper (envOfC qual (defScope stm) s.heap.objs.size f cdv)) → A.guards = some [] → sp vs H Q E →
      ∃ t : TS, PSs (cxOf (L2.CX P w) P w K mg base N qual (defScope stm) f cdv A outer s H E) (defBody stm) t ∧ t { nx := fun _ H' => Q .non H', rt := Q } (L2.start N vs) H) :
    FnG P w K mg base (k + 1) f fd ps sp := by
  obtain ⟨oc, od, dV, kV, doc, pm, an, cdv, ct, osl, rfl, lk, hcd, _, _⟩ := Fn.ex
  refine ⟨hn, fun A outer s H args us vs Q E hr hG e0 hb r hsp => ?_⟩
  have hl : vs.length = ps.length := hn _ _ _ _ hsp
  have KX : K.In s.heap := e0.mod.kin.keeps fun b o e => (e0.bs b o e).1
  have lim : s.heap.NoLimit := e0.mod.nolimit.keeps fun b o e => (e0.bs b o e).1
  have kinds : ∀ y ∈ ps.zip us, (defScope stm).names.lookup y.1 = some .local ∨ ((defScope stm).names.lookup y.1 = some .cell ∧ ((cellsFrom (s.heap.objs.size + 1) (defScope stm).names []).lookup y.1).isSome = true) := by
    rintro ⟨n, v⟩ hy
    rcases S.par n (List.of_mem_zip hy).1 with q | q
    · exact .inl q
    · exact .inr ⟨q, PySem.W.cellsFrom_some _ _ _ (.inl q)⟩
  refine codeAny_call_function hr.depth (KX _ _ lk) rfl S.co S.gen rfl (PySem.W.codeRec_of KX hcd) (hb _ _ _ _ ?_)
  refine wpAny_newFunctionEnv_cells S.kind kinds fun env he s1 x => ?_
  subst he
  refine ⟨lim.keeps x.toInCall.keep, codeAny_func ?_⟩
  obtain ⟨t, ht, hq⟩ := hbody cdv A outer s H vs Q E (hr.deeper _) hG hsp
  have I := inv_start (CX := L2.CX P w) (E := E) (qual := qual) (f := f) (cd := cdv) (A := A) S hr.hd e0 hl r x
  refine wpAny_mono (ht.run [] s1 (L2.start N vs) H { nx := fun _ H' => Q .non H', rt := Q } I hq) (fun fl s' hs => ?_) fun e s' hs => hs
  cases fl with
  | ret u =>
    obtain ⟨v, σ', H', J, rv, q⟩ := hs
    exact ⟨v, H', J.os, J.bare, J.base, J.hok, rv, q⟩
  | next =>
    obtain ⟨σ', H', J, q⟩ := hs
    exact ⟨.non, H', J.os, J.bare, J.base, J.hok, rfl, q⟩
  | brk =>
    obtain ⟨_, _, _, q⟩ := hs
    exact q.elim
  | cont =>
    obtain ⟨_, _, _, q⟩ := hs
    exact q.elim
theorem FunD.pok {x qual : Str} {stm : Stmt} {n : Nat} {sp : PSp} {p : PTS} (Fn : L2.FunD K x qual (defArgs stm) (defBody stm) (defScope stm) dvs [] f fd) (S : FnScope N ps (defScope stm)) (hn : ps.length = n) (hs : Shows sp N.length p)
    (hbody : ∀ (cdv : Value) (A : Around) (outer : List Env) (s : Shared) (H : Hp) (E : XK), Room k (A.deeper (envOfC qual (defScope stm) s.heap.objs.size f cdv)) → A.guards = some [] →
      DSs (cxOf (L2.CX P w) P w K mg base N qual (defScope stm) f cdv A outer s H E) (WE E) (defBody stm) p) :
    FnG P w K mg base (k + 1) f fd ps (toSp K n sp) := by
  refine FunD.gok Fn S (fun vs H Q E h => by rw [toSp_len h, hn]) fun cdv A outer s H vs Q E hr hG hsp => ⟨_, hbody cdv A outer s H E hr hG, ?_⟩
  obtain ⟨g, F, M, O, ds, q, e, _, A0, rp, hsp, hQ, hE⟩ := hsp
  refine ⟨_, _, _, _, _, _, _, A0.enter (N := N) rp, hs ds M q e hsp, ?_, ?_, ?_, ?_, ?_, ?_⟩
  · intro cls dd σ' H' ρ' M' F' O' fs A2 s2 x2 ⟨M2, h1, h2⟩
    exact hE cls dd H' F' _ M2 fs (A2.leave h1) x2 h2
  · intro σ' H' ρ' M' F' O' A2 s2 ⟨M2, h1, h2⟩
    exact hQ .non H' F' _ M2 .non (A2.leave h1) rfl h2
  · intro v σ' H' ρ' M' F' O' d A2 s2 r2 ⟨M2, h1, h2⟩
    exact hQ v H' F' _ M2 d (A2.leave h1) r2 h2
  · intro σ' H' ρ' M' F' O' A2 s2 z; exact z.elim
  · intro σ' H' ρ' M' F' O' A2 s2 z; exact z.elim
  · intro a xs σ' H' ρ' M' F' O' ds A2 s2 e1 e2 e3 e4 e5 z; exact z.elim
end
structure DefV (K : PySem.W.Frag) (mg : Str → Option Value) (x : Str) (stm : Stmt) (ps : List Str) (dvs : List V) (a : Addr) (fd : FuncData) : Prop where
  f : L2.FunD K x x (defArgs stm) (defBody stm) (defScope stm) dvs [] a fd
  b : Binds K fd ps []
  bd : ∃ ds, Vals dvs ds ∧ Binds K fd ps ds
  g : mg x = some (.ref a)
section
variable {K : PySem.W.Frag} {x qual : Str} {params : Arguments} {body : List Stmt} {scope : Scope} {dvs : List V} {f : Addr} {fd : FuncData} {ps : List Str}
end
section
variable {K : PySem.W.Frag} {f T : Addr} {x : Str} {stm : Stmt} {oc kV doc pm cdv ct : Value} {od an : Option Addr} {osl : Array (Option Value)}
end
section
variable {X : Cx} {W : WX} {k n : Nat} {f : Addr} {fd : FuncData} {ps : List Str} {sp : PSp} {x : Str} {p pos : Pos} {e : Expr} {es : List Expr} {pl : PTA} {dd : List D} {dvs : List V}
end
section
variable {X : Cx} {W : WX} {pa pb : PTE} {pl : PTA}
end
section
variable {X : Cx} {W : WX} {K : PySem.W.Frag} {a b : Expr} {pa pb : PTE} {pos : Pos}
end
end Px
set_option Elab.async false
set_option linter.all false
set_option maxRecDepth 100000
namespace Px
open PySem PySem.Spec PyProof.Rows L2
def insC (C : Addr) (d : D) (M : Mm) : Prop := match d with
  | .obj C' _ _ => C' = C
  | .raw (.ref a) => ∃ fs, M a = some (.ins C fs)
  | _ => False
theorem insC_is {K : PySem.W.Frag} {g : Gh} {σ : L2.St} {H : Hp} {ρ : Rho} {M : Mm} {F : Hp} {O : Own} {C : Addr} {d : D} {u : V} (A : Ab K g σ H ρ M F O) (r : Rp K F d u) (h : insC C d M) : ∃ a dx fs, u = .ref a ∧ H a = some (.ins C dx fs) := by
  unfold insC at h
  split at h
  · cases h
    obtain ⟨a, dx, fs, e, e1, _⟩ := r
    exact ⟨a, dx, fs, e, A.sub _ _ e1⟩
  · rename_i a
    obtain ⟨fs, h1⟩ := h
    obtain ⟨dx, ys, e1, _⟩ := A.mu a _ h1
    exact ⟨a, dx, ys, r, e1⟩
  · exact h.elim
section
variable {X : Cx} {W : WX} {k n : Nat} {f C : Addr} {fd : FuncData} {ps : List Str} {sp : PSp} {pos : Pos} {a b : Expr} {pa pb : PTE}
end
end Px
set_option Elab.async false
set_option linter.all false
set_option maxRecDepth 100000
namespace Px
open PySem PySem.Spec PyProof.Rows L2
section
variable {X : Cx} {W : WX} {k n : Nat} {f C : Addr} {fd : FuncData} {ps : List Str} {sp : PSp} {pos : Pos} {a b : Expr} {pa pb : PTE}
end
end Px
set_option Elab.async false
set_option linter.all false
set_option maxRecDepth 100000
namespace Px
open PySem PySem.Spec PyProof.Rows L2
structure IsC (K : PySem.W.Frag) (C : Addr) : Prop where
  own : PySem.W.kitOne K (.ref C) (.ref C) = some true
  tys : ∀ t ∈ tys, PySem.W.kitOne K (.type t) (.ref C) = some false
  cl : Cls K C
  ha : PySem.W.findIn K (.ref C) "__class__" = some (some (.builtin "object.__class__"))
  hn : PySem.W.specialIn K (.builtin "object.__class__") "__get__" = some (some (.builtin "getset_descriptor.__get__"))
  tk : PySem.W.takesIn K (.builtin "object.__class__") = some true
  mro : PySem.W.mroIn K C (.type "object") = some true
section
variable {X : Cx} {W : WX} {C : Addr} {a : Expr} {pa : PTE} {p p2 pos : Pos} {x2 : Str}
end
end Px
set_option Elab.async false
set_option linter.all false
set_option maxRecDepth 100000
namespace Px
open PySem PySem.Spec PyProof.Rows L2
structure MethT (K : PySem.W.Frag) (C : Addr) (m qual : Str) (stm : Stmt) (ps : List Str) (a : Addr) (fd : FuncData) : Prop where
  f : L2.Fun K m qual stm a fd
  b : Binds K fd ps []
  at_ : PySem.W.findIn K (.ref C) m = some (some (.ref a))
  fn : PySem.W.isFn K (.ref a) = true
structure ClsT (K : PySem.W.Frag) (mg : Str → Option Value) (x : Str) (C : Addr) : Prop where
  g : mg x = some (.ref C)
  makes : PySem.W.makesIn K C = true
  kp : PySem.W.keepIn K (.ref C) = true
  first : PySem.W.selfFirst K C = true
  is : IsC K C
section
variable {K : PySem.W.Frag} {mg : Str → Option Value} {x m qual : Str} {C a : Addr} {stm : Stmt} {ps : List Str} {fd : FuncData}
theorem ClsT.maker (t : ClsT K mg x C) (i : MethT K C "__init__" qual stm ps a fd) : L2.Mk K C a := ⟨t.makes, i.at_, i.fn, t.kp⟩
theorem ClsT.cl (t : ClsT K mg x C) : Cls K C := t.is.cl
end
end Px
set_option Elab.async false
set_option linter.all false
set_option maxRecDepth 100000
namespace Px
open PySem PySem.Spec PyProof.Rows L2
def fListC : G1 := fun x k => match x with
  | .lst l => k l
  | .tup l => k l
  | _ => False
section
variable {X : Cx} {W : WX} {a : Expr} {pa : PTE} {p pos : Pos}
end
end Px
set_option Elab.async false
set_option linter.all false
set_option maxRecDepth 100000
namespace Px
open PySem PySem.Spec PyProof.Rows L2
def SOk (s : Str) : Prop := PyData.strOk s = true ∧ PyData.leavesShort 70 (.str s) = true ∧ PyData.weight (.str s) ≤ 211
def Gd (L B : Nat) : Nat → D → Prop
  | _, .non => True
  | _, .bl _ => True
  | _, .int i => i.natAbs ≤ B
  | _, .str s => SOk s
  | _, .dic [] [] => True
  | n + 1, .tup l => l.length ≤ L ∧ ∀ x ∈ l, Gd L B n x
  | n + 1, .lst l => l.length ≤ L ∧ ∀ x ∈ l, Gd L B n x
  | _, _ => False
theorem Gd.mono {L B L' B' : Nat} (hL : L ≤ L') (hB : B ≤ B') : ∀ {n n' : Nat} {d : D}, n ≤ n' → Gd L B n d → Gd L' B' n' d
  | _, _, .non, _, _ => by simp [Gd]
  | _, _, .bl _, _, _ => by simp [Gd]
  | _, _, .int i, _, h => by simp only [Gd] at h ⊢; omega
  | _, _, .str s, _, h => by simp only [Gd] at h ⊢; exact h
  | _, _, .dic [] [], _, _ => by simp [Gd]
  | n + 1, n' + 1, .tup l, hn, h => by
    simp only [Gd] at h ⊢
    exact ⟨by omega, fun x hx => Gd.mono hL hB (by omega) (h.2 x hx)⟩
  | n + 1, n' + 1, .lst l, hn, h => by
    simp only [Gd] at h ⊢
    exact ⟨by omega, fun x hx => Gd.mono hL hB (by omega) (h.2 x hx)⟩
  | 0, _, .tup _, _, h => by simp [Gd] at h
  | 0, _, .lst _, _, h => by simp [Gd] at h
  | _ + 1, 0, .tup _, hn, _ => by omega
  | _ + 1, 0, .lst _, hn, _ => by omega
  | _, _, .dic (_ :: _) _, _, h => by simp [Gd] at h
  | _, _, .dic [] (_ :: _), _, h => by simp [Gd] at h
  | _, _, .obj _ _ _, _, h => by simp [Gd] at h
  | _, _, .raw _, _, h => by simp [Gd] at h
  | _, _, .scr _, _, h => by simp [Gd] at h
  | _, _, .clo .., _, h => by simp [Gd] at h
  | _, _, .fnc .., _, h => by simp [Gd] at h
  | _, _, .exv .., _, h => by simp [Gd] at h
theorem Gd.plain {L B n : Nat} {d : D} (h : Gd L B n d) : plain d = true := by
  cases d with
  | dic a b => rcases a with _ | ⟨x, y⟩ <;> rcases b with _ | ⟨z, u⟩ <;> first | rfl | (exfalso; revert h; simp [Gd]; done)
  | _ => first | rfl | (exfalso; revert h; simp [Gd]; done)
theorem Gd.tup {L B n : Nat} {l : List D} (h : Gd L B n (.tup l)) : ∃ m, n = m + 1 ∧ l.length ≤ L ∧ ∀ x ∈ l, Gd L B m x := by
  cases n with
  | zero => simp [Gd] at h
  | succ m => simp only [Gd] at h; exact ⟨m, rfl, h⟩
theorem Gd.lst {L B n : Nat} {l : List D} (h : Gd L B n (.lst l)) : ∃ m, n = m + 1 ∧ l.length ≤ L ∧ ∀ x ∈ l, Gd L B m x := by
  cases n with
  | zero => simp [Gd] at h
  | succ m => simp only [Gd] at h; exact ⟨m, rfl, h⟩
theorem Gd.parts {L B n : Nat} {d : D} (h : Gd L B n d) : parts d = true := by
  cases d with
  | tup l =>
    obtain ⟨m, _, _, h2⟩ := h.tup
    exact List.all_eq_true.mpr fun x hx => (h2 x hx).plain
  | _ => rfl
end Px
set_option Elab.async false
set_option linter.all false
set_option maxRecDepth 100000
namespace Px
open PySem PySem.Spec PyProof.Rows L2
mutual
def sz : D → Nat
  | .tup l => szL l + 1
  | .lst l => szL l + 1
  | .int i => i.natAbs.log2 + 2
  | .str s => s.cps.size + 1
  | _ => 1
def szL : List D → Nat
  | [] => 0
  | d :: r => sz d + szL r
end
end Px
set_option Elab.async false
set_option linter.all false
set_option maxRecDepth 100000
namespace Px
open PySem PySem.Spec PyProof.Rows PySem.W PySem.Calls
section
variable {prog : Program} {w : World} {A : Around} {E : Value → Shared → Prop} {h : Heap} {g : Array GenState} {d : Drawn} {t : Nat} {os : OsState}
variable {nm q : Str} {C N : Addr} {bs bm : List Value} {hdct : Bool} {sn : List Str} {sub : List Value} {ab : Bool} {col : Option Bool} {dd : Option Addr} {k0 k1 k2 k3 k5 : Option Value}
theorem call_vw {u e t0 : Addr} {rest : List Value} {Q : Value → Shared → Prop}
    (hC : h.get? C = some (excClassObj nm q C N bs bm hdct sn sub ab col dd k0 k1 k2 k3 k5 "ValueError.__new__")) (he : h.get? e = some (HandSPX.excO C t0)) (hu : h.get? u = some (kxs_mw "ValueError.__init__" e)) (hrest : rest.length ≤ sizeLine)
    (hq : ∀ h' t1, (∀ b o, b ≠ e → h.get? b = some o → h'.get? b = some o) → h'.get? e = some (HandSPX.excO C t1) → Q .none ⟨h', g, d, t, os⟩) :
    wpAny (model prog w) A (call (.ref u) rest) Q E ⟨h, g, d, t, os⟩ := by
  refine wpAny_call (codeAny_of_tree ?_)
  show wpAny _ A.in1 (callAny (.ref u) ⟨rest, []⟩) _ _ _
  simp only [callAny]
  refine wpAny_bind (wpAny_load hu ?_)
  simp only [kxs_mw, show (Value.type "method-wrapper" == Value.type "method" || Value.type "method-wrapper" == Value.type "builtin_function_or_method" || Value.type "method-wrapper" == Value.type "method-wrapper") = true by decide, if_true]
  refine KFB.if_so (by decide) ?_
  refine wpAny_bind (check_bound_init F.excBase_ValueError.toExcCallFacts hC he rfl ?_)
  refine wpAny_bind (wpAny_pure (wpAny_pure ?_))
  refine ⟨plainId_quiet F.excBase_ValueError.init.plain _, codeAny_builtin F.excBase_ValueError.initEntry ?_⟩
  exact exc_init_tree (cls := .ref C) (t0 := t0) (dv := none) (c2 := .none) (c3 := .none) (b4 := .bool false) he hrest fun h' k e' _ => hq h' _ k e'
end
structure InitA (P : Program) (K : Frag) (C fI : Addr) (x f : Str) : Prop where
  sup : ks_superIn K C C "__init__" = some (some (.builtin "ValueError.__init__"))
  hB : subIn K (.ref C) (.type "ValueError") = some true
  mro : mroIn K C (.ref C) = some true
  opq : nsIn K cStatics "thirdparty.any" = some none
  no : findIn K (.ref C) f = some none
  top : (P.main.scope.names.lookup ("super" : Str)).isSome = false
  ex : ∃ (oc ct dV kV doc pm : Value) (od an : Option Addr) (cda cc : Addr) (osl : Array (Option Value)) (qual : Str) (params : Arguments) (scope : Scope) (msg : Str) (j : Nat) (p0 p1 p2 p3 p4 p5 p6 p7 p8 p9 : Pos) (vs : Array Value) (file : Str) (tf : Tok) (ccl cl : Value) (cdd cld : Option Addr) (ccs csl : Array (Option Value)) (ar : Arg),
    K.lookup fI = some ⟨oc, od, .func (ksFn "__init__" qual params [.Expr (.Call (.Attribute (.Call (.Name "super" p0) [] [] p1) "__init__" p2) [.Constant (.str msg) j p3] [] p4) p5, .Assign [.Attribute (.Name "self" p6) f p7] (.Name x p8) p9] scope dV kV doc pm an (.ref cda) ct cc), osl⟩ ∧
    codeIn K (.ref cda) qual = true ∧ K.lookup cda = some ⟨ccl, cdd, .fields vs, ccs⟩ ∧ vs[2]? = some (.str file tf) ∧ ((P.main.file : Str) == file) = true ∧ K.lookup cc = some ⟨cl, cld, .cell (some (.ref C)), csl⟩ ∧
    (params.posonlyargs ++ params.args).head? = some ar ∧ ar.arg = ("self" : Str) ∧ (∀ (s : Shared) (e u : Value), BindsTo s (ksFn "__init__" qual params [.Expr (.Call (.Attribute (.Call (.Name "super" p0) [] [] p1) "__init__" p2) [.Constant (.str msg) j p3] [] p4) p5, .Assign [.Attribute (.Name "self" p6) f p7] (.Name x p8) p9] scope dV kV doc pm an (.ref cda) ct cc) ⟨[e, u], []⟩ [("self", e), (x, u)]) ∧
    scope.names.lookup ("super" : Str) = some .globalImplicit ∧ scope.names.lookup ("__class__" : Str) = some .free ∧ scope.names.lookup ("self" : Str) = some .local ∧ scope.names.lookup x = some .local ∧ (∀ y ∈ scope.names, y.2 ≠ .cell) ∧
    scope.isCoroutine = false ∧ scope.isGenerator = false ∧ scope.kind = .function ∧ x ≠ ("self" : Str) ∧ (x == ("__debug__" : Str)) = false ∧
    (∀ L, interactive (ksEnv qual scope L fI (.ref cda) cc) = false) ∧ (∀ L, swapsWith (.Call (.Attribute (.Call (.Name "super" p0) [] [] p1) "__init__" p2) [.Constant (.str msg) j p3] [] p4) none p5.line (ksEnv qual scope L fI (.ref cda) cc) = pure false) ∧
    (∀ L, swapsWith (.Name x p8) (some (.Attribute (.Name "self" p6) f p7)) p9.line (ksEnv qual scope L fI (.ref cda) cc) = pure false) ∧
    ∃ pl : Sem Bool, ∀ L, eval (.Call (.Attribute (.Call (.Name "super" p0) [] [] p1) "__init__" p2) [.Constant (.str msg) j p3] [] p4) (ksEnv qual scope L fI (.ref cda) cc) = (do
      let ov ← attributeBase (.Call (.Name "super" p0) [] [] p1) "__init__" (ksEnv qual scope L fI (.ref cda) cc) (eval (.Call (.Name "super" p0) [] [] p1) (ksEnv qual scope L fI (.ref cda) cc))
      standAt p2.atName
      let (f, first) ← holding [ov] (getMethod ov "__init__" pl)
      callWith p4 f first (backTo p4 (starEach [.Constant (.str msg) j p3] (ksEnv qual scope L fI (.ref cda) cc))) [])
section
variable {prog : Program} {w : World} {A : Around} {R : Result → Shared → Prop} {K : Frag} {C fI e t0 : Addr} {u : Value} {x f : Str} {mg mb : Str → Option Value} {s : Shared}
theorem init_attr (T : L2.OexC K C) (Z : InitA prog K C fI x f) (X : K.In s.heap) (hlim : s.heap.NoLimit) (hroom : A.depth < recursionLimit) (hg : s.heap.Ns mainGlobals mg) (hgs : mg "super" = none) (hb : s.heap.Ns builtinsNs mb) (hbs : mb "super" = some (.type "super"))
    (he : s.heap.get? e = some (HandSPX.excO C t0)) (hKe : K.lookup e = none)
    (hq : ∀ h' tk' dx t1, (∀ b o, b ≠ e → s.heap.get? b = some o → h'.get? b = some o) → s.heap.objs.size ≤ dx → h'.get? e = some { cls := .ref C, dict := some dx, data := .fields #[.ref t1, .none, .none, .none, .bool false, .none] } →
      h'.Ns1 dx (fun y => if y = f then some u else none) → R (.ok (.ret .none)) { s with heap := h', toks := tk' }) :
    codeAny (model prog w) A (.call (.ref fI) ⟨[.ref e, u], []⟩) R s := by
  obtain ⟨oc, ct, dV, kV, doc, pm, od, an, cda, cc, osl, qual, params, scope, msg, j, p0, p1, p2, p3, p4, p5, p6, p7, p8, p9, vs, file, tf, ccl, cl, cdd, cld, ccs, csl, ar, hf, hcd, hcode, hvs, hfile, hcell, har, harn, hbind, s1, s2, s3, s4, s5, s6, s7, s8, s9, s10, s11, s12, s13, pl, s14⟩ := Z.ex
  obtain ⟨nm, qn, N, bs, bm, sn, sub, ab, col, dd, k0, k1, k2, k3, k5, hC, hbm⟩ := T.cls
  refine ks_codeAny_call_defAt (binds := [("self", .ref e), (x, u)]) hroom (X _ _ hf) rfl hlim (codeRec_of X hcd) rfl (hbind s _ _) s5 (fun y hy => ?_) (fun h₀ hns hk => ?_) s6 s7 s8
  · rcases List.mem_cons.mp hy with rfl | hy
    · exact s3
    · rw [List.mem_singleton.mp hy]; exact s4
  have X0 : K.In h₀ := X.keeps hk
  obtain ⟨hp, g, d, t, os⟩ := s
  have hCp := X0 _ _ hC
  have hep := hk _ _ he
  have hne : e ≠ hp.objs.size := Nat.ne_of_lt (Heap.lt_size he)
  have hself : (fun y => [(("self" : Str), Value.ref e), (x, u)].reverse.lookup y) "self" = some (.ref e) := by
    show (List.lookup ("self" : Str) [(x, u), (("self" : Str), Value.ref e)]) = _
    have : (("self" : Str) == x) = false := by simpa using fun z => s9 z.symm
    simp [List.lookup, this]
  have hx : (fun y => [(("self" : Str), Value.ref e), (x, u)].reverse.lookup y) x = some u := by
    show (List.lookup x [(x, u), (("self" : Str), Value.ref e)]) = _
    simp [List.lookup]
  refine ks_wpAt_execs_cons (ks_wpAt_Expr_any (ks_wpAt_MethodCall (pl := pl) ?_ (s14 _)) (s11 _) (s12 _))
  refine ks_wpAt_super_base s1 s2 (by decide) rfl (X0 _ _ hf) rfl har rfl (X0 _ _ hcode) rfl hvs hfile Z.top ?_
  refine ks_loadName_global s8 s1 (loadGlobal_builtin (hg.keeps hk) hgs (hb.keeps hk) hbs ⟨rfl, ?_⟩)
  refine wpAny_loadName_free s8 s2 rfl ⟨_, X0 _ _ hcell, rfl⟩ ?_
  rw [harn]
  refine wpAny_loadName_local s8 s3 hns hself ?_
  refine ks_wpAny_isType_cls hCp rfl ⟨rfl, ?_⟩
  refine ks_wpAny_call_super hCp rfl hep rfl (fun c z => by cases z) (looks_mroIn X0 Z.mro) (fun h' ho k => ?_)
  have X1 : K.In h' := X0.keeps k
  have hcl : clsIn K C = some { name := nm, bases := bs, mro := .ref C :: bm, ns := N, qualname := qn, hasDict := true, slotNames := sn, subclasses := sub, abstract := ab, collection := col, hasDel := false } := by unfold clsIn; rw [hC] <;> rfl
  have hsup : alongIn K "__init__" (((Value.ref C :: bm).dropWhile (· != .ref C)).drop 1) = some (some (.builtin "ValueError.__init__")) := by
    have := Z.sup
    unfold ks_superIn at this
    rw [hcl] at this
    exact this
  have I1 : InstAt h' e (HandSPX.excO C t0) C none := ⟨k _ _ hep, rfl, rfl, trivial⟩
  have hCe : e ≠ C := fun z => by rw [z, hC] at hKe; cases hKe
  refine kxs_getMethod kxs_ValueError ho (looks_opaque X1 Z.opq) (l₀ := .ref C :: bm) (fun A Q E s k q => wpAny_bind ((looks_clsIn X1 hcl) A _ E s k (wpAny_pure q))) rfl X1 hsup (I1.type.andThen (looks_subIn X1 Z.hB)) hCe (by decide) ?_
  have k2 : ∀ b o, h'.get? b = some o → (h'.push (kxs_mw "ValueError.__init__" e)).get? b = some o := fun b o q => Heap.get?_push_of_some _ q
  have hu2 : (h'.push (kxs_mw "ValueError.__init__" e)).get? h'.objs.size = some (kxs_mw "ValueError.__init__" e) := Heap.get?_push_at rfl rfl
  refine kxs_callWith (i := "ValueError.__init__") (x := e) rfl (evalArgs_plain (spliced_cons (wpAny_Constant_str (k := j) (pos := p3) (spliced_nil ⟨hu2, ?_⟩))))
  refine call_vw (t0 := t0) (k2 _ _ (k _ _ hCp)) (k2 _ _ (k _ _ hep)) hu2 (by show 1 ≤ sizeLine; rw [sizeLine_eq]; omega) fun h2 t1 k3 e3 => ?_
  have X3 : K.In h2 := fun a o q => k3 a o (fun z => by rw [z, hKe] at q; cases q) (k2 _ _ (X1 a o q))
  obtain ⟨oL, es, ep, hL, rL⟩ := hns
  have hL2 := k3 _ _ (Ne.symm hne) (k2 _ _ (k _ _ hL))
  refine ks_wpAt_execs_cons (ks_wpAt_Assign_Attr ?_ (s13 _))
  refine wpAt_of_wpAny (wpAny_Name (wpAny_loadName_local s8 s4 ⟨oL, es, ep, hL2, rL⟩ hx ?_) s10)
  refine wpAny_Name (wpAny_loadName_local s8 s3 ⟨oL, es, ep, hL2, rL⟩ hself ?_) (by decide)
  refine set_plain X3 (ox := HandSPX.excO C t1) (od := none) ⟨e3, rfl, rfl, trivial⟩ T.sa ?_
  refine HandSPX.exc_osa X3 e3 hcl (show HandSPX.refsVE (.ref C :: bm) = true from hbm) rfl Z.no (fun h4 tk dx k4 dn dne hx4 hn4 => ?_)
  have hsz : hp.objs.size < h2.objs.size := Heap.lt_size hL2
  have fin := hq h4 tk dx t1 (fun b o hb q => k4 b o hb (k3 b o hb (k2 _ _ (k _ _ (hk _ _ q))))) (Nat.le_trans (Nat.le_of_lt hsz) dn) hx4 hn4
  refine wpAt_of_wpAny ?_
  rw [execs_nil]
  exact wpAny_pure fin
end
open L2 in
section
variable {X : Cx} {p pos : Pos} {e : Expr} {te : TE}
def tMkA (C : Addr) (f : Str) (te : TE) : L2.St → Hp → XK → Prop := fun σ H Q => te σ H fun y H1 => ∀ d, H1 d = none → Q (.ref C) (some d) (upd H1 d (.xd [(f, y)]))
theorem un_new {fs : List Addr} {H : Hp} {hp h' : Heap} {a C dx : Addr} {f : Str} {y : V} (e : H a = some (exo a C none)) (hnd : H dx = none) (nd : ∀ {b : Addr} {o : Obj}, hp.get? b = some o → b ≠ dx) (k : ∀ b o, b ≠ a → hp.get? b = some o → h'.get? b = some o) (hx : ∃ o, h'.get? a = some o) :
    Un fs [] H (upd (upd H dx (exd dx [(f, y)])) a (exo a C (some dx))) hp h' := by
  have na : ∀ {b : Addr}, H b = none → b ≠ a := fun {b} n z => by
    rw [z, e] at n
    cases n
  exact {
    keep := fun b o q n _ _ => k b o (na n) q
    slot := fun b o q n _ _ => ⟨o.slots, k b o (na n) q⟩
    free := fun b o q n _ => by rw [upd_ne (na n), upd_ne (nd q)]; exact n
    there := fun b o q _ => by
      by_cases hb : b = a
      · rw [hb]; exact hx
      · exact ⟨o, k b o hb q⟩
    tups := fun b xs q => by rw [upd_ne (at_ne e q exo_tup), upd_ne (ne_of_none q hnd)]; exact q
    frzs := fun b o v q => by rw [upd_ne (at_ne e q exo_frz), upd_ne (ne_of_none q hnd)]; exact q
    tbls := fun b ps q => ⟨#[], by rw [upd_ne (at_ne e q exo_tbl), upd_ne (ne_of_none q hnd), q]; simp⟩ }
theorem pmk_exa {x px f : Str} {C fI : Addr} {k : Nat} (T : OexC X.K C) (Z : InitA X.prog X.K C fI px f) (iC : PySem.W.findIn X.K (.ref C) "__init__" = some (some (.ref fI))) (tI : PySem.W.typeIn X.K (.ref fI) = some (.type "function"))
    (hr : Room (k + 1) X.A) (hg : Gl X x) (hm : X.mg x = some (.ref C)) (hs : X.mg "super" = none) (ha : PE X e te)
    (hdb : (x == ("__debug__" : Str)) = false := by decide) (he : starEach [e] X.env = (false, eval e X.env) :: starEach [] X.env := by rfl) (hpl : (backTo pos (starEach [] X.env)).any (·.1) = false := by rfl) :
    PMk X (.Call (.Name x p) [e] [] pos) (tMkA C f te) := by
  intro pins s σ H Q I h
  obtain ⟨nm, q, N, bs, bm, sn, sub, ab, col, dd, k0, k1, k2, k3, k5, hC, hbm⟩ := T.cls
  refine wpAny_Call_Name_kw (ld_glob I hg hm ?_ hdb)
  refine PySem.W.callWith_K (h₀ := X.base) I.ok.mod.kin T.kC (thn ((pa_cons ha pa_nil he).run pos pins s σ H (fun vs H1 => match vs with | [y] => ∀ d, H1 d = none → Q (.ref C) (some d) (upd H1 d (.xd [(f, y)])) | _ => False) I h) fun us s1 ⟨vs, H1, I1, r1, q1⟩ => ⟨I1.kIn, ?_⟩) he hpl
  obtain ⟨y, rfl⟩ : ∃ y, vs = [y] := by
    match vs, q1 with
    | [y], _ => exact ⟨y, rfl⟩
    | [], q => exact (show False from q).elim
    | _ :: _ :: _, q => exact (show False from q).elim
  have q1 : ∀ d, H1 d = none → Q (.ref C) (some d) (upd H1 d (.xd [(f, y)])) := q1
  obtain ⟨u, rfl, ru⟩ := L2.Vals.one r1
  show wpAny _ _ (call (.ref C) [u]) _ _ _
  obtain ⟨hp, g, dr, tk, os⟩ := s1
  have hsz : hp.objs.size ≤ hp.objs.size + 1 := Nat.le_succ _
  have hn : H1 (hp.objs.size + 1) = none := I1.hok.fresh hsz
  have kk : ∀ b o, hp.get? b = some o → ((hp.push (PySem.W.kdv_tup [u])).push (PySem.HandSPX.excO C hp.objs.size)).get? b = some o := fun b o e => Heap.get?_push_of_some _ (Heap.get?_push_of_some _ e)
  have hget : ((hp.push (PySem.W.kdv_tup [u])).push (PySem.HandSPX.excO C hp.objs.size)).get? (hp.objs.size + 1) = some (PySem.HandSPX.excO C hp.objs.size) := by heap_get
  have I2 : Inv X pins σ (upd H1 (hp.objs.size + 1) (exo (hp.objs.size + 1) C none)) ⟨(hp.push (PySem.W.kdv_tup [u])).push (PySem.HandSPX.excO C hp.objs.size), g, dr, tk, os⟩ :=
    I1.laid (t' := tk) (a := hp.objs.size + 1) (o := exo (hp.objs.size + 1) C none) (h' := (hp.push (PySem.W.kdv_tup [u])).push (PySem.HandSPX.excO C hp.objs.size)) kk hsz (exo_ok hget)
  have e0 := I2.env0.make C [u] []
  have bk : ∀ b o, X.base.get? b = some o → ((hp.push (PySem.W.kdv_tup [u])).push (PySem.HandSPX.excO C hp.objs.size)).get? b = some o := fun b o e => (e0.bs b o e).1
  obtain ⟨mb, hb1, hb2⟩ := e0.mod.blt
  have hKe : X.K.lookup (hp.objs.size + 1) = none := by
    cases z : X.K.lookup (hp.objs.size + 1) with
    | none => rfl
    | some o =>
      have := Heap.lt_size (show hp.get? (hp.objs.size + 1) = some o from I1.kIn _ _ z)
      exact absurd this (Nat.not_lt.mpr (Nat.le_succ _))
  refine wpAny_call (PySem.HandSPX.call_own F.excBase_ValueError (fun Y => PySem.HandSPX.refsVE_contains Y bm hbm) (I1.kIn _ _ hC) (PySem.W.looks_findIn I1.kIn iC) (fun self => PySem.W.bind_fn I1.kIn self tI) (by show 1 ≤ sizeLine; rw [sizeLine_eq]; omega)
    (init_attr T Z I2.kIn (e0.mod.nolimit.keeps bk) (hr.make C [u] []).depth (e0.mod.glob.keeps bk) hs (hb1.keeps bk) ((hb2 "super" (by decide)).trans (by decide +kernel)) hget hKe fun h' tk' dx t1 k dn hx hns => ?_))
  have ea : upd H1 (hp.objs.size + 1) (exo (hp.objs.size + 1) C none) (hp.objs.size + 1) = some (exo (hp.objs.size + 1) C none) := upd_same
  have dne : dx ≠ hp.objs.size + 1 := fun z => by
    have := Heap.lt_size hget
    rw [z] at dn
    exact absurd dn (by show ¬ _; exact Nat.not_le.mpr this)
  have hnd : upd H1 (hp.objs.size + 1) (exo (hp.objs.size + 1) C none) dx = none := I2.hok.fresh dn
  have nd : ∀ {b : Addr} {o : Obj}, ((hp.push (PySem.W.kdv_tup [u])).push (PySem.HandSPX.excO C hp.objs.size)).get? b = some o → b ≠ dx := fun {b o} q => Nat.ne_of_lt (Nat.lt_of_lt_of_le (Heap.lt_size q) dn)
  have U : ∀ fs, Un fs [] (upd H1 (hp.objs.size + 1) (exo (hp.objs.size + 1) C none)) (upd (upd (upd H1 (hp.objs.size + 1) (exo (hp.objs.size + 1) C none)) dx (exd dx [(f, y)])) (hp.objs.size + 1) (exo (hp.objs.size + 1) C (some dx))) ((hp.push (PySem.W.kdv_tup [u])).push (PySem.HandSPX.excO C hp.objs.size)) h' := fun fs => un_new ea hnd nd k ⟨_, hx⟩
  have hok2 : HOk X.prog X.w (upd (upd (upd H1 (hp.objs.size + 1) (exo (hp.objs.size + 1) C none)) dx (exd dx [(f, y)])) (hp.objs.size + 1) (exo (hp.objs.size + 1) C (some dx))) h' := fun b o q => by
    by_cases hb : b = hp.objs.size + 1
    · subst hb
      rw [upd_same] at q
      cases q
      exact exo_ok hx
    · rw [upd_ne hb] at q
      by_cases hd : b = dx
      · subst hd
        rw [upd_same] at q
        cases q
        exact exd_ok hns (relO_put (fs := []) ru fun g => True.intro)
      · rw [upd_ne hd] at q
        exact (I2.hok b o q).stay (fun c v hc z => k c v (by
            rcases hc with hc | hc
            · rw [hc]
              exact hb
            · exact at_ne ea hc exo_own) z)
          (fun c hc => by rw [upd_ne (at_ne ea hc exo_own), upd_ne (ne_of_none hc hnd)]; exact hc) (fun c xs hc => by rw [upd_ne (at_ne ea hc exo_tup), upd_ne (ne_of_none hc hnd)]; exact hc)
  have hd1 : H1 dx = none := by rw [upd_ne dne] at hnd; exact hnd
  refine ⟨rfl, mk_end (fs := [(f, y)]) (raises_own T.exC T.tyC) I1 hsz kk (U _) hok2 rfl I1.bare upd_same (by rw [upd_ne dne]; exact upd_same) hd1 ?_⟩
  have eH : upd (del (upd (upd (upd H1 (hp.objs.size + 1) (exo (hp.objs.size + 1) C none)) dx (exd dx [(f, y)])) (hp.objs.size + 1) (exo (hp.objs.size + 1) C (some dx))) (hp.objs.size + 1)) dx (.xd [(f, y)]) = upd H1 dx (.xd [(f, y)]) := by
    funext b
    by_cases hb : b = dx
    · rw [hb, upd_same, upd_same]
    · rw [upd_ne hb, upd_ne hb]
      by_cases hb2 : b = hp.objs.size + 1
      · rw [hb2, del_same, hn]
      · rw [del_ne hb2, upd_ne hb2, upd_ne hb, upd_ne hb2]
  rw [eH]
  exact q1 dx hd1
end
abbrev supX (msg : Str) (j : Nat) (p0 p1 p2 p3 p4 : Pos) : Expr := .Call (.Attribute (.Call (.Name "super" p0) [] [] p1) "__init__" p2) [.Constant (.str msg) j p3] [] p4
def InitW (stm : Stmt) (qual x f : Str) : Prop := ∃ (msg : Str) (j : Nat) (p0 p1 p2 p3 p4 p5 p6 p7 p8 p9 : Pos) (ar : Arg),
  L2.defBody stm = [.Expr (supX msg j p0 p1 p2 p3 p4) p5, .Assign [.Attribute (.Name "self" p6) f p7] (.Name x p8) p9] ∧
  ((L2.defArgs stm).posonlyargs ++ (L2.defArgs stm).args).head? = some ar ∧ ar.arg = ("self" : Str) ∧
  (∀ (kV doc pm ct : Value) (an : Option Addr) (cda cc : Addr) (e u : Value), bindArgs (ksFn "__init__" qual (L2.defArgs stm) (L2.defBody stm) (L2.defScope stm) .none kV doc pm an (.ref cda) ct cc) ⟨[e, u], []⟩ = pure [(("self" : Str), e), (x, u)]) ∧
  (L2.defScope stm).names.lookup ("super" : Str) = some .globalImplicit ∧ (L2.defScope stm).names.lookup ("__class__" : Str) = some .free ∧ (L2.defScope stm).names.lookup ("self" : Str) = some .local ∧ (L2.defScope stm).names.lookup x = some .local ∧ (∀ y ∈ (L2.defScope stm).names, y.2 ≠ .cell) ∧
  (L2.defScope stm).isCoroutine = false ∧ (L2.defScope stm).isGenerator = false ∧ (L2.defScope stm).kind = .function ∧ x ≠ ("self" : Str) ∧ (x == ("__debug__" : Str)) = false ∧
  (∀ (L fI cda cc : Addr), interactive (ksEnv qual (L2.defScope stm) L fI (.ref cda) cc) = false) ∧ (∀ (L fI cda cc : Addr), swapsWith (supX msg j p0 p1 p2 p3 p4) none p5.line (ksEnv qual (L2.defScope stm) L fI (.ref cda) cc) = pure false) ∧
  (∀ (L fI cda cc : Addr), swapsWith (.Name x p8) (some (.Attribute (.Name "self" p6) f p7)) p9.line (ksEnv qual (L2.defScope stm) L fI (.ref cda) cc) = pure false) ∧
  ∃ pl : Sem Bool, ∀ (L fI cda cc : Addr), eval (supX msg j p0 p1 p2 p3 p4) (ksEnv qual (L2.defScope stm) L fI (.ref cda) cc) = (do
      let ov ← attributeBase (.Call (.Name "super" p0) [] [] p1) "__init__" (ksEnv qual (L2.defScope stm) L fI (.ref cda) cc) (eval (.Call (.Name "super" p0) [] [] p1) (ksEnv qual (L2.defScope stm) L fI (.ref cda) cc))
      standAt p2.atName
      let (f, first) ← holding [ov] (getMethod ov "__init__" pl)
      callWith p4 f first (backTo p4 (starEach [.Constant (.str msg) j p3] (ksEnv qual (L2.defScope stm) L fI (.ref cda) cc))) [])
theorem initA_mk {P : Program} {K : Frag} {C fI cda cc : Addr} {qual x f : Str} {stm : Stmt} {oc kV doc pm ct ccl cl : Value} {od an cdd cld : Option Addr} {osl ccs csl : Array (Option Value)} {vs : Array Value} {file : Str} {tf : Tok} (W : InitW stm qual x f)
    (h1 : K.lookup fI = some ⟨oc, od, .func (ksFn "__init__" qual (L2.defArgs stm) (L2.defBody stm) (L2.defScope stm) .none kV doc pm an (.ref cda) ct cc), osl⟩) (h2 : codeIn K (.ref cda) qual = true) (h3 : K.lookup cda = some ⟨ccl, cdd, .fields vs, ccs⟩) (h4 : vs[2]? = some (.str file tf))
    (h5 : ((P.main.file : Str) == file) = true) (h6 : K.lookup cc = some ⟨cl, cld, .cell (some (.ref C)), csl⟩) (a1 : ks_superIn K C C "__init__" = some (some (.builtin "ValueError.__init__"))) (a2 : subIn K (.ref C) (.type "ValueError") = some true) (a3 : mroIn K C (.ref C) = some true)
    (a4 : nsIn K cStatics "thirdparty.any" = some none) (a5 : findIn K (.ref C) f = some none) (a6 : (P.main.scope.names.lookup ("super" : Str)).isSome = false) : InitA P K C fI x f := by
  obtain ⟨msg, j, p0, p1, p2, p3, p4, p5, p6, p7, p8, p9, ar, e0, e1, e2, e3, e4, e5, e6, e7, e8, e9, e10, e11, e12, e13, e14, e15, e16, pl, e17⟩ := W
  rw [e0] at h1 e3
  exact ⟨a1, a2, a3, a4, a5, a6, oc, ct, .none, kV, doc, pm, od, an, cda, cc, osl, qual, _, _, msg, j, p0, p1, p2, p3, p4, p5, p6, p7, p8, p9, vs, file, tf, ccl, cl, cdd, cld, ccs, csl, ar, h1, h2, h3, h4, h5, h6, e1, e2, fun s e u => .of_eq (e3 _ _ _ _ _ _ _ e u), e4, e5, e6, e7, e8, e9, e10, e11, e12, e13,
    fun L => e14 L fI cda cc, fun L => e15 L fI cda cc, fun L => e16 L fI cda cc, pl, fun L => e17 L fI cda cc⟩
structure ExaTxt (P : Program) (K : Frag) (mg : Str → Option Value) (x : Str) (C : Addr) (f : Str) : Prop where
  g : mg x = some (.ref C)
  s : mg "super" = none
  o : L2.OexC K C
  i : ∃ (fI : Addr) (px : Str), InitA P K C fI px f ∧ findIn K (.ref C) "__init__" = some (some (.ref fI)) ∧ typeIn K (.ref fI) = some (.type "function")
open L2 in
def dRaiseA (cls : Value) (f : Str) (pe : PTE) : PTS := fun w P ρ M => pe w ρ M fun d M1 => w cls [(f, d)] ρ M1
open L2 in
theorem ds_raiseA {X : Cx} {W : WX} {x f : Str} {p pos pos2 : Pos} {C : Addr} {e : Expr} {pe : PTE} {k : Nat} (hc : X.calm = true) (tk : Takes X W) (T : ExaTxt X.prog X.K X.mg x C f) (hr : Room (k + 1) X.A) (hg : Gl X x) (he : DE X W e pe) (hdb : (x == ("__debug__" : Str)) = false := by decide)
    (hst : starEach [e] X.env = (false, eval e X.env) :: starEach [] X.env := by rfl) (hpl : (backTo pos (starEach [] X.env)).any (·.1) = false := by rfl) :
    DS X W (.Raise (some (.Call (.Name x p) [e] [] pos)) none pos2) (dRaiseA (.ref C) f pe) := by
  obtain ⟨fI, px, Z, i1, i2⟩ := T.i
  refine ps_imp (ps_raise hc tk (pmk_exa T.o Z i1 i2 hr hg T.g T.s he hdb hst hpl)) fun D σ H ⟨g, ρ, M, F, O, P, w, A, h, hw, _⟩ => ?_
  refine ⟨g, ρ, M, F, O, _, w, A, h, hw, fun y H1 F1 O1 M1 d1 A1 s1 r1 q1 => fun d hd => ?_⟩
  have s2 := same_new (o := .xd [(f, y)]) (A1.f0 hd)
  exact hw (.ref C) (some d) σ _ ρ M1 _ O1 [(f, d1)] (A1.lay hd) (s1.trans s2) ⟨[(f, y)], upd_same, rfl, ⟨y, [], rfl, Rp.mono s2 _ _ r1, rfl⟩⟩ q1
end Px
set_option Elab.async false
set_option linter.all false
set_option maxRecDepth 100000
namespace Px
open PySem PySem.Spec PyProof.Rows L2
mutual
def toE : D → PyData
  | .tup l => .tuple (toEL l)
  | .lst l => .list (toEL l)
  | .dic _ _ => .dict []
  | .int i => .int i
  | .str s => .str s
  | .bl b => .bool b
  | _ => .none
def toEL : List D → List PyData
  | [] => []
  | d :: ds => toE d :: toEL ds
end
def okE : Nat → D → Bool
  | _, .non => true
  | _, .bl _ => true
  | _, .int _ => true
  | _, .str s => PyData.strOk s
  | _, .dic [] [] => true
  | n + 1, .tup l => l.all (okE n)
  | n + 1, .lst l => l.all (okE n)
  | _, _ => false
mutual
inductive DpE (K : PySem.W.Frag) (H : Hp) : V → PyData → Prop
  | non : DpE K H .non .none
  | bl (b : Bool) : DpE K H (.bl b) (.bool b)
  | int (i : Int) : DpE K H (.int i) (.int i)
  | str (x : Str) : DpE K H (.str x) (.str x)
  | lst {a : Addr} {xs : List V} {ds : List PyData} : SqL K H a xs → DpEAll K H xs ds → DpE K H (.ref a) (.list ds)
  | tup {a : Addr} {xs : List V} {ds : List PyData} : SqT K H a xs → DpEAll K H xs ds → DpE K H (.ref a) (.tuple ds)
  | dic {a : Addr} : Rd H a (.dK []) → DpE K H (.ref a) (.dict [])
inductive DpEAll (K : PySem.W.Frag) (H : Hp) : List V → List PyData → Prop
  | nil : DpEAll K H [] []
  | cons {v : V} {vs : List V} {d : PyData} {ds : List PyData} : DpE K H v d → DpEAll K H vs ds → DpEAll K H (v :: vs) (d :: ds)
end
mutual
inductive RdE (h : Heap) : Value → PyData → Prop
  | none : RdE h .none .none
  | bool (b : Bool) : RdE h (.bool b) (.bool b)
  | int (i : Int) (t : Tok) : RdE h (.int i t) (.int i)
  | str (x : Str) (t : Tok) : RdE h (.str x t) (.str x)
  | list {a : Addr} {o : Obj} {vs : Array Value} {n : Nat} {xs : List PyData} : h.get? a = some o → o.cls = .type "list" → o.data = .seq vs n → RdEAll h vs.toList xs → RdE h (.ref a) (.list xs)
  | tuple {a : Addr} {o : Obj} {vs : Array Value} {n : Nat} {xs : List PyData} : h.get? a = some o → o.cls = .type "tuple" → o.data = .seq vs n → RdEAll h vs.toList xs → RdE h (.ref a) (.tuple xs)
  | dict {a : Addr} {o : Obj} {n : Nat} : h.get? a = some o → o.cls = .type "dict" → o.data = .dict #[] n → (a == sysModules) = false → RdE h (.ref a) (.dict [])
inductive RdEAll (h : Heap) : List Value → List PyData → Prop
  | nil : RdEAll h [] []
  | cons {v : Value} {vs : List Value} {d : PyData} {ds : List PyData} : RdE h v d → RdEAll h vs ds → RdEAll h (v :: vs) (d :: ds)
end
section
variable {h₀ : Heap}
mutual
theorem RdE.reads : ∀ {v : Value} {d : PyData}, RdE h₀ v d → ∃ as, Reads h₀ v d as
  | _, _, .none => ⟨_, .none⟩
  | _, _, .bool b => ⟨_, .bool b⟩
  | _, _, .int i t => ⟨_, .int i t⟩
  | _, _, .str x t => ⟨_, .str x t⟩
  | _, _, .list h1 h2 h3 h4 => let ⟨_, r⟩ := RdEAll.reads h4; ⟨_, .list h1 h2 h3 r⟩
  | _, _, .tuple h1 h2 h3 h4 => let ⟨_, r⟩ := RdEAll.reads h4; ⟨_, .tuple h1 h2 h3 r⟩
  | _, _, .dict h1 h2 h3 _ => ⟨_, .dict (kvs := []) (as := []) (bs := []) h1 h2 h3 .nil .nil⟩
theorem RdEAll.reads : ∀ {vs : List Value} {ds : List PyData}, RdEAll h₀ vs ds → ∃ as, ReadsAll h₀ vs ds as
  | _, _, .nil => ⟨_, .nil⟩
  | _, _, .cons r k => let ⟨_, x⟩ := RdE.reads r; let ⟨_, y⟩ := RdEAll.reads k; ⟨_, .cons x y⟩
end
variable {prog : Program} {w : World}
mutual
theorem RdE.shows : ∀ {v : Value} {d : PyData}, RdE h₀ v d → d.showable = true → d.shown.length ≤ sizeLine → ∃ bs, ReadAtMost h₀ d.depth bs ∧ ReprK prog w bs h₀ d.depth v d.shown
  | _, _, .none, _, _ => ⟨[], (fun _ z => nomatch z), by simp only [PyData.shown]; exact .of_is ReprIs.none _ _ _⟩
  | _, _, .bool b, _, _ => ⟨[], (fun _ z => nomatch z), by simp only [PyData.shown]; exact .of_is (ReprIs.bool b) _ _ _⟩
  | _, _, .int i t, hs, _ => ⟨[], (fun _ z => nomatch z), by simp only [PyData.shown]; exact .of_is (ReprIs.int t (by simpa [PyData.showable] using hs)) _ _ _⟩
  | _, _, .str x t, _, hz => ⟨[], (fun _ z => nomatch z), by simp only [PyData.shown]; exact .of_is (ReprIs.str x t (by simpa only [PyData.shown] using hz)) _ _ _⟩
  | _, _, .list (a := a) (vs := vs) (xs := xs) h1 h2 h3 h4, hs, hz => by
    have hz2 : (listText (PyData.shownAll xs)).length ≤ sizeLine := by simpa only [PyData.shown] using hz
    obtain ⟨bs, b1, b2⟩ := RdEAll.shows h4 (by simpa [PyData.showable] using hs) fun t ht => Nat.le_trans (listText_mem_le ht) hz2
    obtain ⟨as, r0⟩ := RdEAll.reads h4
    have r := Reads.list h1 h2 h3 r0
    have out := not_mem_of_deeper r (by simp only [PyData.depth]; omega) b1
    refine ⟨a :: bs, ReadAtMost.cons r (by simp only [PyData.depth]; omega) b1, ?_⟩
    simp only [PyData.depth, PyData.shown]
    obtain ⟨l⟩ := vs
    cases l with
    | nil =>
      cases (show RdEAll h₀ [] xs from h4)
      simp only [PyData.shownAll, listText_nil]
      exact ReprK.listEmpty h1 h2 h3
    | cons y l => exact ReprK.list h1 h2 h3 out (by simpa using b2.length_eq) fun i z e => b2.item i z (by simpa using e)
  | _, _, .tuple (a := a) (xs := xs) h1 h2 h3 h4, hs, hz => by
    have hz2 : (tupleText (PyData.shownAll xs)).length ≤ sizeLine := by simpa only [PyData.shown] using hz
    obtain ⟨bs, b1, b2⟩ := RdEAll.shows h4 (by simpa [PyData.showable] using hs) fun t ht => Nat.le_trans (tupleText_mem_le ht) hz2
    obtain ⟨as, r0⟩ := RdEAll.reads h4
    have r := Reads.tuple h1 h2 h3 r0
    have out := not_mem_of_deeper r (by simp only [PyData.depth]; omega) b1
    refine ⟨a :: bs, ReadAtMost.cons r (by simp only [PyData.depth]; omega) b1, ?_⟩
    simp only [PyData.depth, PyData.shown]
    exact ReprK.tuple h1 h2 h3 out b2
  | _, _, .dict (a := a) h1 h2 h3 hsys, hs, hz => by
    have r : Reads h₀ (.ref a) (.dict []) _ := .dict (kvs := []) (as := []) (bs := []) h1 h2 h3 .nil .nil
    refine ⟨[a], ReadAtMost.cons r (n := 0) (Nat.zero_le _) (fun _ z => nomatch z), ?_⟩
    simp only [PyData.depth, PyData.shown, PyData.shownKv_eq]
    exact ReprK.dict h1 h2 h3 hsys (List.not_mem_nil) ReprEntriesK.nil
theorem RdEAll.shows : ∀ {vs : List Value} {ds : List PyData}, RdEAll h₀ vs ds → PyData.showableAll ds = true → (∀ t ∈ PyData.shownAll ds, t.length ≤ sizeLine) → ∃ bs, ReadAtMost h₀ (PyData.depthAll ds) bs ∧ ReprAllK prog w bs h₀ (PyData.depthAll ds) vs (PyData.shownAll ds)
  | _, _, .nil, _, _ => ⟨[], (fun _ z => nomatch z), by simp only [PyData.shownAll]; exact .nil⟩
  | _, _, .cons (d := d) (ds := ds) r k, hs, hz => by
    obtain ⟨s1, s2⟩ : d.showable = true ∧ PyData.showableAll ds = true := by simpa [PyData.showableAll] using hs
    obtain ⟨b1, x1, x2⟩ := RdE.shows r s1 (hz _ (by simp only [PyData.shownAll]; exact List.mem_cons_self ..))
    obtain ⟨b2, y1, y2⟩ := RdEAll.shows k s2 fun t ht => hz t (by simp only [PyData.shownAll]; exact List.mem_cons_of_mem _ ht)
    refine ⟨b1 ++ b2, ?_, ?_⟩
    · simp only [PyData.depthAll]
      exact (x1.mono (Nat.le_max_left _ _)).append (y1.mono (Nat.le_max_right _ _))
    · simp only [PyData.depthAll, PyData.shownAll]
      exact .cons ((x2.more fun b hb => List.mem_append_left _ hb).level_le (Nat.le_max_left _ _)) (y2.more_le (fun b hb => List.mem_append_right _ hb) (Nat.le_max_right _ _))
end
end
section
variable {h₀ : Heap} {prog : Program} {w : World} {a : Addr} {d : PyData}
end
theorem pairs_nil {κ : Type} [DecidableEq κ] {prog : Program} {w : World} {knd : _root_.PySem.KeyKind prog w κ} {l : List DictEntry} (h : Pairs knd l []) : l = [] := by cases h; rfl
section
variable {X : Cx} {pins : List (Addr × Obj)} {σ : L2.St} {H : Hp} {s : Shared}
mutual
theorem DpE.rdE (I : Inv X pins σ H s) : ∀ (d : PyData) (v : V) (u : Value), DpE X.K H v d → RelV v u → RdE s.heap u d
  | .none, _, _, h, r => by
    cases h
    cases r
    exact .none
  | .bool b, _, _, h, r => by
    cases h
    cases r
    exact .bool b
  | .int i, _, _, h, r => by
    cases h
    obtain ⟨t, rfl⟩ := r
    exact .int i t
  | .str x, _, _, h, r => by
    cases h
    obtain ⟨t, rfl⟩ := r
    exact .str x t
  | .list ds, _, _, h, r => by
    cases h with
    | lst hs ha =>
      cases r
      obtain ⟨its, rv, ⟨o, n, ho, hc, _, hd⟩, _⟩ := I.list hs
      exact .list ho hc hd (DpE.rdEAll I ds _ its ha rv)
  | .tuple ds, _, _, h, r => by
    cases h with
    | tup hs ha =>
      cases r
      obtain ⟨its, rv, ⟨o, ho, hc, n, hd⟩, _⟩ := I.tuple hs
      exact .tuple ho hc hd (DpE.rdEAll I ds _ its ha rv)
  | .dict kvs, _, _, h, r => by
    cases h with
    | dic hd =>
      cases r
      obtain ⟨_, hsm, vs, hv, ob, es, ep, ho, hc⟩ := hd.ok I.hok
      cases hv
      obtain ⟨h1, h2, h3, h4, h5⟩ := hc
      have e0 : es = #[] := Array.toList_eq_nil_iff.mp (pairs_nil h4)
      subst e0
      exact .dict ho h1.1 h2 hsm
theorem DpE.rdEAll (I : Inv X pins σ H s) : ∀ (ds : List PyData) (vs : List V) (us : List Value), DpEAll X.K H vs ds → Vals vs us → RdEAll s.heap us ds
  | [], _, _, h, r => by
    cases h
    cases r
    exact .nil
  | d :: ds, _, _, h, r => by
    cases h with
    | cons h1 h2 =>
      cases r with
      | cons r1 r2 => exact .cons (DpE.rdE I d _ _ h1 r1) (DpE.rdEAll I ds _ _ h2 r2)
end
end
section
variable {X : Cx} {W : WX} {K : PySem.W.Frag} {a : Expr} {pa : PTE} {p pos : Pos}
end
section
variable {X : Cx} {W : WX} {a b : Expr} {rest : List Expr} {pa pb : PTE} {pos : Pos}
end
end Px
set_option Elab.async false
set_option linter.all false
set_option maxRecDepth 100000
namespace Px
open PySem PySem.Spec PyProof.Rows L2
structure ShF (n w : Nat) (d : D) : Prop where
  ok : okE n d = true
  sh : PyData.showable (toE d) = true
  lv : PyData.leavesShort 70 (toE d) = true
  wt : PyData.weight (toE d) + 1 ≤ w
  dp : (toE d).depth ≤ n + 1
structure ShFL (n w : Nat) (l : List D) : Prop where
  ok : l.all (okE n) = true
  sh : PyData.showableAll (toEL l) = true
  lv : PyData.leavesShortAll 70 (toEL l) = true
  wt : PyData.weightAll (toEL l) ≤ w
  dp : PyData.depthAll (toEL l) ≤ n + 1
theorem ShFL.all {n : Nat} : ∀ {l : List D}, (∀ d ∈ l, ShF n (sz d) d) → ShFL n (szL l) l
  | [], _ => ⟨rfl, rfl, rfl, by simp [toEL, PyData.weightAll], Nat.zero_le _⟩
  | d :: r, hh => by
    have h := hh d List.mem_cons_self
    have k := ShFL.all (l := r) fun x q => hh x (List.mem_cons_of_mem _ q)
    refine ⟨by rw [List.all_cons, h.ok, k.ok]; rfl, ?_, ?_, ?_, ?_⟩
    · show (PyData.showable (toE d) && PyData.showableAll (toEL r)) = true
      rw [h.sh, k.sh]; rfl
    · show (PyData.leavesShort 70 (toE d) && PyData.leavesShortAll 70 (toEL r)) = true
      rw [h.lv, k.lv]; rfl
    · show PyData.weight (toE d) + 1 + PyData.weightAll (toEL r) ≤ sz d + szL r
      have := h.wt; have := k.wt; omega
    · show max (toE d).depth (PyData.depthAll (toEL r)) ≤ n + 1
      exact Nat.max_le.mpr ⟨h.dp, k.dp⟩
def itemsP' : D → List D
  | .lst l => l
  | .tup l => l
  | _ => []
theorem Gd.seq {L B n : Nat} {d : D} (h : Gd L B n d) : ∀ x ∈ itemsP' d, Px.plain x = true ∧ Px.parts x = true := by
  cases d with
  | tup l => obtain ⟨m, em, h1, h2⟩ := h.tup; exact fun x hx => ⟨(h2 x hx).plain, (h2 x hx).parts⟩
  | lst l => obtain ⟨m, em, h1, h2⟩ := h.lst; exact fun x hx => ⟨(h2 x hx).plain, (h2 x hx).parts⟩
  | _ => intro x hx; cases hx
end Px
set_option Elab.async false
set_option linter.all false
set_option maxRecDepth 100000
namespace Px
open PySem PySem.Spec PyProof.Rows L2
end Px
set_option Elab.async false
set_option linter.all false
set_option maxRecDepth 100000
namespace Px
open PySem PySem.Spec PyProof.Rows L2
section
open Builtin
variable {prog : Program} {w : World} {A : Around} {E : Value → Shared → Prop} {s : Shared} {K : PySem.W.Frag} {x C L f : Addr} {h₀ : Heap} {m : Str → Option Value} {ox : Obj} {od : Option Obj} {b tb : Value}
end
section
variable {X : Cx} {W : WX} {k n : Nat} {f C : Addr} {fd : FuncData} {ps : List Str} {sp : PSp} {pos : Pos} {a b : Expr} {pa pb : PTE}
end
end Px
set_option Elab.async false
set_option linter.all false
set_option maxRecDepth 100000
namespace Px
open PySem PySem.Spec PyProof.Rows L2
section
variable {X : Cx} {W : WX} {k n : Nat} {f C : Addr} {fd : FuncData} {ps ks : List Str} {sp : PSp} {m : Str} {pos apos : Pos} {o : Expr} {kws : List Keyword} {ix : List Nat} {po : PTE} {pl : PTA}
end
end Px
set_option Elab.async false
set_option linter.all false
set_option maxRecDepth 100000
namespace Px
open PySem PySem.Spec PyProof.Rows L2
theorem fnIn_of {K : PySem.W.Frag} {x qual : Str} {st : Stmt} {f : Addr} {fd : FuncData} (F : L2.Fun K x qual st f fd) : PySem.W.fnIn K f = true := by
  obtain ⟨oc, od, kV, doc, pm, an, cdv, ct, osl, rfl, lk, hcd⟩ := F.ex
  unfold PySem.W.fnIn
  rw [lk]
section
variable {X : Cx} {W : WX} {k n : Nat} {f C : Addr} {fd : FuncData} {ps : List Str} {sp : PSp} {pos : Pos} {a b : Expr} {pa pb : PTE} {x qual : Str} {st : Stmt}
end
end Px
set_option Elab.async false
set_option linter.all false
set_option maxRecDepth 100000
namespace Px
open PySem PySem.Spec PyProof.Rows L2
structure PropT (K : PySem.W.Frag) (C : Addr) (x qual : Str) (stm : Stmt) (g : Addr) (fd : FuncData) : Prop where
  f : L2.Fun K x qual stm g fd
  b : Binds K fd ["self"] []
  pr : ∃ p, PropOf K C x p g
theorem PropT.fn {P : Program} {w : World} {K : PySem.W.Frag} {mg : Str → Option Value} {base : Heap} {k : Nat} {C g : Addr} {f pf qual : Str} {stm : Stmt} {fd : FuncData} {N : List Str} {p1 p2 p3 : Pos} (t : PropT K C f qual stm g fd) (S : FnScope N ["self"] (defScope stm))
    (hN : N[0]? = some ("self" : Str)) (hb : defBody stm = [.Return (some (.Attribute (.Name "self" p1) pf p2)) p3]) (c : Cls K C) (n : NoAttr K C pf) : FnOk P w K mg base (fun _ _ _ _ _ _ => False) (k + 1) g fd ["self"] (getSp C pf) := by
  obtain ⟨oc, od, kV, doc, pm, an, cdv, ct, osl, rfl, lk, hcd⟩ := t.f.ex
  exact fn_getter lk hcd S hN hb c n
theorem de_propT {X : Cx} {W : WX} {C g : Addr} {f pf qual : Str} {stm : Stmt} {fd : FuncData} {N : List Str} {p1 p2 p3 pos : Pos} {e : Expr} {pe : PTE} (t : PropT X.K C f qual stm g fd) (S : FnScope N ["self"] (defScope stm)) (hN : N[0]? = some ("self" : Str))
    (hb : defBody stm = [.Return (some (.Attribute (.Name "self" p1) pf p2)) p3]) (c : Cls X.K C) (n : NoAttr X.K C pf) (hr : Room 2 X.A) (he : DE X W e pe) (hab : attributeBase e f X.env (eval e X.env) = eval e X.env := by rfl) : DE X W (.Attribute e f pos) (dFld C pf pe) :=
  t.pr.elim fun p hp => de_prop c hp (t.fn (k := 0) S hN hb c n) hr t.b he hab
end Px
set_option Elab.async false
set_option linter.all false
set_option maxRecDepth 100000
namespace Px
open PySem PySem.Spec PyProof.Rows L2
theorem kit_self {K : PySem.W.Frag} {C : Addr} : PySem.W.kitOne K (.ref C) (.ref C) = some true := by
  unfold PySem.W.kitOne
  rw [beq_self_eq_true]
  rfl
theorem kit_not {K : PySem.W.Frag} {C : Addr} {t : String} (h1 : PySem.W.isClsIn K C = true) (h2 : PySem.W.typeIn K (.ref C) = some (.type "type")) (h3 : PySem.W.subIn K (.type t) (.ref C) = some false) : PySem.W.kitOne K (.type t) (.ref C) = some false := by
  have h1' : (PySem.W.clsIn K C).isSome = true := h1
  have e1 : ((PySem.W.clsIn K C).isSome && PySem.W.typeIn K (.ref C) == some (.type "type")) = true := by
    rw [h1', h2] <;> rfl
  have e0 : (Value.type t == Value.ref C) = false := Bool.eq_false_iff.mpr fun q => by cases beq_iff_eq.mp q
  unfold PySem.W.kitOne PySem.W.kitCls
  rw [e0, if_neg Bool.false_ne_true]
  dsimp only
  rw [if_pos e1, h3]
section
variable {X : Cx} {W : WX} {k n : Nat} {f C : Addr} {fd : FuncData} {ps : List Str} {sp : PSp} {pos : Pos} {a b : Expr} {pa pb : PTE}
end
end Px
set_option Elab.async false
set_option linter.all false
set_option maxRecDepth 100000
namespace Px
open PySem PySem.Spec PyProof.Rows L2
section
variable {X : Cx} {W : WX} {k n : Nat} {f C : Addr} {fd : FuncData} {ps : List Str} {sp : PSp} {pos : Pos} {a b : Expr} {pa pb : PTE}
end
end Px
set_option Elab.async false
set_option linter.all false
set_option maxRecDepth 100000
namespace Px
open PySem PySem.Spec PyProof.Rows L2
section
variable {P : Program} {w : World} {A : Around} {E : Value → Shared → Prop} {s : Shared}
set_option maxRecDepth 100000 in
set_option maxHeartbeats 3200000 in
theorem call_set_lstI {l : Addr} {items : Array Value} (ns : List Int) {Q : Value → Shared → Prop} (hh : A.handled = none) (hl : s.heap.IsList l items) (hit : IntsAre items.toList ns) (hb : ns.length + 1 < scanBound)
    (h : ∀ (h' : Heap) (tk c : Nat), SetR w h' s.heap.objs.size (fun j => decide (j ∈ ns)) c → c ≤ ns.length → (∀ b o, s.heap.get? b = some o → h'.get? b = some o) → Q (.ref s.heap.objs.size) { s with heap := h', toks := tk }) :
    wpAny (model P w) A (call (.type "set") [.ref l]) Q E s := by
  have hisz : items.size = ns.length := by
    have q := IntsAre.length hit
    rw [Array.length_toList] at q
    exact q
  obtain ⟨c, tl, hmro⟩ := PySem.F.called_set.mro
  have hmade := PySem.F.called_set.made
  have hsub := PySem.F.called_set.sub
  refine wpAny_call (codeAny_of_tree ?_)
  show wpAny _ _ (callAny (.type "set") _) _ _ _
  refine wpAny_pure ⟨Code.quiet_builtin _ (by decide +kernel), codeAny_builtin PySem.F.entry_type_call ?_⟩
  rw [Around.under_plain (weight_type_call_type "set" [.ref l] []) rfl]
  have h1 := PySem.F.called_set.notType
  have h2 := PySem.F.called_set.canCreate
  have hct := PySem.F.typeCall_set_1 (.ref l)
  repeat (any_goals (first | assumption | wp_step))
  refine codeAny_mono (code_set_led1 (.ref l) (E := E) (Q₁ := fun obj s₁ => obj = .ref s.heap.objs.size ∧ s₁ = { s with heap := s.heap.push { cls := .type "set", dict := none, data := .set #[] 0 (.fresh 0 0 (!w.params.followText "set-order")) } }) ⟨rfl, rfl⟩) fun r s₁ hr => ?_
  cases r with
  | error e => exact hr
  | ok fl =>
    cases fl with
    | ret obj =>
      obtain ⟨rfl, rfl⟩ := hr
      have hS : (s.heap.push { cls := .type "set", dict := none, data := .set #[] 0 (.fresh 0 0 (!w.params.followText "set-order")) }).get? s.heap.objs.size = some { cls := .type "set", dict := none, data := .set #[] 0 (.fresh 0 0 (!w.params.followText "set-order")) } := Heap.get?_push_size _ rfl
      have hT : Shared.TypeIs { s with heap := s.heap.push { cls := .type "set", dict := none, data := .set #[] 0 (.fresh 0 0 (!w.params.followText "set-order")) } } (.ref s.heap.objs.size) "set" := ⟨_, hS, rfl⟩
      have hli := PySem.F.called_set.init.lookup
      have hbi := PySem.F.called_set.init.bind (.ref s.heap.objs.size)
      repeat (any_goals (first | assumption | wp_step))
      refine codeAny_mono (codeAny_call_builtin (R := wants (fun r s₂ => r = .none ∧ ∃ h' tk c, s₂ = { s with heap := h', toks := tk } ∧ SetR w h' s.heap.objs.size (fun j => decide (j ∈ ns)) c ∧ c ≤ ns.length ∧
          (∀ b o, s.heap.get? b = some o → h'.get? b = some o)) E) PySem.F.called_set.init.plain PySem.F.entry_set_init (check_set_init_1 hT ?_)) fun r₂ s₂ hr₂ => ?_
      · obtain ⟨ol, hol, hcl, nl, hdl⟩ := hl
        obtain ⟨ocls, odict, odata, oslots⟩ := ol
        simp only at hcl hdl
        subst hcl; subst hdl
        have hol' : (s.heap.push { cls := .type "set", dict := none, data := .set #[] 0 (.fresh 0 0 (!w.params.followText "set-order")) }).get? l = some { cls := .type "list", dict := odict, data := .seq items nl, slots := oslots } := Heap.get?_push_of_some _ hol
        have hsls := PySem.F.sub_list_set
        have hslf := PySem.F.sub_list_frozenset
        have hne : (Value.type "list" == Value.type "dict") = false := by decide
        have hl1 : (s.heap.push { cls := .type "set", dict := none, data := .set #[] 0 (.fresh 0 0 (!w.params.followText "set-order")) }).IsList l items := ⟨_, hol', rfl, nl, rfl⟩
        unfold Builtin.«set.__init__» noKeywords Builtin.Frozenset.updateFrom
        generalize hPI : pyIter = PI
        wp_walk
        subst hPI
        refine wpAny_pyIter_list hl1 ?_
        refine wpAny_bind (wpAny_runValue ?_)
        have hlS : l < s.heap.objs.size := Heap.lt_size hol
        have hh3 : A.in1.in1.in1.handled = none := by simp [hh]
        have hz1 : (s.heap.push { cls := .type "set", dict := none, data := .set #[] 0 (.fresh 0 0 (!w.params.followText "set-order")) }).objs.size = s.heap.objs.size + 1 := Heap.size_push ..
        have hneI : l ≠ (s.heap.push { cls := .type "set", dict := none, data := .set #[] 0 (.fresh 0 0 (!w.params.followText "set-order")) }).objs.size := by
          rw [Heap.size_push]; exact Nat.ne_of_lt (Nat.lt_succ_of_lt hlS)
        have hSf : s.heap.objs.size ∉ [(s.heap.push { cls := .type "set", dict := none, data := .set #[] 0 (.fresh 0 0 (!w.params.followText "set-order")) }).objs.size, l] := by
          rw [Heap.size_push]; simp only [List.mem_cons, List.mem_singleton, List.not_mem_nil, or_false, not_or]
          exact ⟨Nat.ne_of_lt (Nat.lt_succ_self _), Nat.ne_of_gt hlS⟩
        have hval : ∀ (i : Nat) (v : Value), items[i]? = some v → ∃ k t, ns[i]? = some k ∧ v = .int k t := fun i v hv => by
          have hi : i < ns.length := by rw [← hisz]; exact (Array.getElem?_eq_some_iff.mp hv).1
          obtain ⟨t, e⟩ := PyProof.Rows.IntsAre.int_at hit i v (by rw [Array.getElem?_toList]; exact hv)
          refine ⟨ns[i], t, List.getElem?_eq_getElem hi, ?_⟩
          rw [e, List.getD_eq_getElem?_getD, List.getElem?_eq_getElem hi] <;> rfl
        refine set_update_ints ((Walks.list hh3 _ l hneI items).toS) s.heap.objs.size
          hSf ns hisz hb hval (items.size - 0) 0 _ (by omega) (Nat.zero_le _)
          ⟨⟨_, Heap.get?_push_size _ rfl, rfl, rfl⟩, (hl1.push _)⟩ ?hS0 ?hR
        case hS0 =>
          have hget : ((s.heap.push { cls := .type "set", dict := none, data := .set #[] 0 (.fresh 0 0 (!w.params.followText "set-order")) }).push { cls := .type "list_iterator", data := .fields #[.ref l, .int 0 0] }).get? s.heap.objs.size
              = some { cls := .type "set", dict := none, data := .set #[] 0 (.fresh 0 0 (!w.params.followText "set-order")) } := Heap.get?_push_of_some _ hS
          exact ⟨0, Nat.le_refl 0, setR_new_at hget⟩
        case hR =>
          intro s' c' hm hc' hS'
          obtain ⟨h', g2, d', tk', os'⟩ := s'
          have eg : g2 = s.gens := hm.gens
          have ed : d' = s.drawn := hm.drawn
          have eo : os' = s.os := hm.os
          subst eg; subst ed; subst eo
          show wpAny _ _ _ _ _ _
          refine wpAny_pure ?_
          show wpAny _ _ (ret Value.none) _ _ _
          rw [hisz] at hc'
          refine wpAny_pure ⟨rfl, h', tk', c', rfl, hS', hc', fun b o e => ?_⟩
          have hb0 : b < s.heap.objs.size := Heap.lt_size e
          have hb1 : b ≠ s.heap.objs.size := Nat.ne_of_lt hb0
          have hb2 : b ≠ (s.heap.push { cls := .type "set", dict := none, data := .set #[] 0 (.fresh 0 0 (!w.params.followText "set-order")) }).objs.size := by
            rw [Heap.size_push]; exact Nat.ne_of_lt (Nat.lt_succ_of_lt hb0)
          exact hm.heap b o (by simp only [List.mem_cons, List.mem_singleton, List.not_mem_nil, or_false, not_or]; exact ⟨hb1, hb2⟩) (Heap.get?_push_of_some _ (Heap.get?_push_of_some _ e))
      · cases r₂ with
        | error e => exact hr₂
        | ok fl₂ =>
          cases fl₂ with
          | ret r =>
            obtain ⟨rfl, h', tk, c', rfl, hS', hc', hk'⟩ := hr₂
            repeat (any_goals (first | assumption | wp_step))
            exact h _ _ _ hS' hc' hk'
          | _ => exact hr₂.elim
    | _ => exact hr.elim
set_option maxRecDepth 100000 in
set_option maxHeartbeats 3200000 in
theorem call_set_tupI {l : Addr} {items : Array Value} (ns : List Int) {Q : Value → Shared → Prop} (hh : A.handled = none) (hl : s.heap.IsTuple l items) (hit : IntsAre items.toList ns) (hb : ns.length + 1 < scanBound)
    (h : ∀ (h' : Heap) (tk c : Nat), SetR w h' s.heap.objs.size (fun j => decide (j ∈ ns)) c → c ≤ ns.length → (∀ b o, s.heap.get? b = some o → h'.get? b = some o) → Q (.ref s.heap.objs.size) { s with heap := h', toks := tk }) :
    wpAny (model P w) A (call (.type "set") [.ref l]) Q E s := by
  have hisz : items.size = ns.length := by
    have q := IntsAre.length hit
    rw [Array.length_toList] at q
    exact q
  obtain ⟨c, tl, hmro⟩ := PySem.F.called_set.mro
  have hmade := PySem.F.called_set.made
  have hsub := PySem.F.called_set.sub
  refine wpAny_call (codeAny_of_tree ?_)
  show wpAny _ _ (callAny (.type "set") _) _ _ _
  refine wpAny_pure ⟨Code.quiet_builtin _ (by decide +kernel), codeAny_builtin PySem.F.entry_type_call ?_⟩
  rw [Around.under_plain (weight_type_call_type "set" [.ref l] []) rfl]
  have h1 := PySem.F.called_set.notType
  have h2 := PySem.F.called_set.canCreate
  have hct := PySem.F.typeCall_set_1 (.ref l)
  repeat (any_goals (first | assumption | wp_step))
  refine codeAny_mono (code_set_led1 (.ref l) (E := E) (Q₁ := fun obj s₁ => obj = .ref s.heap.objs.size ∧ s₁ = { s with heap := s.heap.push { cls := .type "set", dict := none, data := .set #[] 0 (.fresh 0 0 (!w.params.followText "set-order")) } }) ⟨rfl, rfl⟩) fun r s₁ hr => ?_
  cases r with
  | error e => exact hr
  | ok fl =>
    cases fl with
    | ret obj =>
      obtain ⟨rfl, rfl⟩ := hr
      have hS : (s.heap.push { cls := .type "set", dict := none, data := .set #[] 0 (.fresh 0 0 (!w.params.followText "set-order")) }).get? s.heap.objs.size = some { cls := .type "set", dict := none, data := .set #[] 0 (.fresh 0 0 (!w.params.followText "set-order")) } := Heap.get?_push_size _ rfl
      have hT : Shared.TypeIs { s with heap := s.heap.push { cls := .type "set", dict := none, data := .set #[] 0 (.fresh 0 0 (!w.params.followText "set-order")) } } (.ref s.heap.objs.size) "set" := ⟨_, hS, rfl⟩
      have hli := PySem.F.called_set.init.lookup
      have hbi := PySem.F.called_set.init.bind (.ref s.heap.objs.size)
      repeat (any_goals (first | assumption | wp_step))
      refine codeAny_mono (codeAny_call_builtin (R := wants (fun r s₂ => r = .none ∧ ∃ h' tk c, s₂ = { s with heap := h', toks := tk } ∧ SetR w h' s.heap.objs.size (fun j => decide (j ∈ ns)) c ∧ c ≤ ns.length ∧
          (∀ b o, s.heap.get? b = some o → h'.get? b = some o)) E) PySem.F.called_set.init.plain PySem.F.entry_set_init (check_set_init_1 hT ?_)) fun r₂ s₂ hr₂ => ?_
      · obtain ⟨ol, hol, hcl, nl, hdl⟩ := hl
        obtain ⟨ocls, odict, odata, oslots⟩ := ol
        simp only at hcl hdl
        subst hcl; subst hdl
        have hol' : (s.heap.push { cls := .type "set", dict := none, data := .set #[] 0 (.fresh 0 0 (!w.params.followText "set-order")) }).get? l = some { cls := .type "tuple", dict := odict, data := .seq items nl, slots := oslots } := Heap.get?_push_of_some _ hol
        have hsls := PySem.F.sub_tuple_set
        have hslf := PySem.F.sub_tuple_frozenset
        have hne : (Value.type "tuple" == Value.type "dict") = false := by decide
        have hl1 : (s.heap.push { cls := .type "set", dict := none, data := .set #[] 0 (.fresh 0 0 (!w.params.followText "set-order")) }).IsTuple l items := ⟨_, hol', rfl, nl, rfl⟩
        unfold Builtin.«set.__init__» noKeywords Builtin.Frozenset.updateFrom
        generalize hPI : pyIter = PI
        wp_walk
        subst hPI
        refine wpAny_pyIter_tuple hl1 ?_
        refine wpAny_bind (wpAny_runValue ?_)
        have hlS : l < s.heap.objs.size := Heap.lt_size hol
        have hh3 : A.in1.in1.in1.handled = none := by simp [hh]
        have hz1 : (s.heap.push { cls := .type "set", dict := none, data := .set #[] 0 (.fresh 0 0 (!w.params.followText "set-order")) }).objs.size = s.heap.objs.size + 1 := Heap.size_push ..
        have hneI : l ≠ (s.heap.push { cls := .type "set", dict := none, data := .set #[] 0 (.fresh 0 0 (!w.params.followText "set-order")) }).objs.size := by
          rw [Heap.size_push]; exact Nat.ne_of_lt (Nat.lt_succ_of_lt hlS)
        have hSf : s.heap.objs.size ∉ [(s.heap.push { cls := .type "set", dict := none, data := .set #[] 0 (.fresh 0 0 (!w.params.followText "set-order")) }).objs.size, l] := by
          rw [Heap.size_push]; simp only [List.mem_cons, List.mem_singleton, List.not_mem_nil, or_false, not_or]
          exact ⟨Nat.ne_of_lt (Nat.lt_succ_self _), Nat.ne_of_gt hlS⟩
        have hval : ∀ (i : Nat) (v : Value), items[i]? = some v → ∃ k t, ns[i]? = some k ∧ v = .int k t := fun i v hv => by
          have hi : i < ns.length := by rw [← hisz]; exact (Array.getElem?_eq_some_iff.mp hv).1
          obtain ⟨t, e⟩ := PyProof.Rows.IntsAre.int_at hit i v (by rw [Array.getElem?_toList]; exact hv)
          refine ⟨ns[i], t, List.getElem?_eq_getElem hi, ?_⟩
          rw [e, List.getD_eq_getElem?_getD, List.getElem?_eq_getElem hi] <;> rfl
        refine set_update_ints ((Walks.tuple hh3 _ l hneI items).toS) s.heap.objs.size
          hSf ns hisz hb hval (items.size - 0) 0 _ (by omega) (Nat.zero_le _)
          ⟨⟨_, Heap.get?_push_size _ rfl, rfl, rfl⟩, (hl1.push _)⟩ ?hS0 ?hR
        case hS0 =>
          have hget : ((s.heap.push { cls := .type "set", dict := none, data := .set #[] 0 (.fresh 0 0 (!w.params.followText "set-order")) }).push { cls := .type "tuple_iterator", data := .fields #[.ref l, .int 0 0] }).get? s.heap.objs.size
              = some { cls := .type "set", dict := none, data := .set #[] 0 (.fresh 0 0 (!w.params.followText "set-order")) } := Heap.get?_push_of_some _ hS
          exact ⟨0, Nat.le_refl 0, setR_new_at hget⟩
        case hR =>
          intro s' c' hm hc' hS'
          obtain ⟨h', g2, d', tk', os'⟩ := s'
          have eg : g2 = s.gens := hm.gens
          have ed : d' = s.drawn := hm.drawn
          have eo : os' = s.os := hm.os
          subst eg; subst ed; subst eo
          show wpAny _ _ _ _ _ _
          refine wpAny_pure ?_
          show wpAny _ _ (ret Value.none) _ _ _
          rw [hisz] at hc'
          refine wpAny_pure ⟨rfl, h', tk', c', rfl, hS', hc', fun b o e => ?_⟩
          have hb0 : b < s.heap.objs.size := Heap.lt_size e
          have hb1 : b ≠ s.heap.objs.size := Nat.ne_of_lt hb0
          have hb2 : b ≠ (s.heap.push { cls := .type "set", dict := none, data := .set #[] 0 (.fresh 0 0 (!w.params.followText "set-order")) }).objs.size := by
            rw [Heap.size_push]; exact Nat.ne_of_lt (Nat.lt_succ_of_lt hb0)
          exact hm.heap b o (by simp only [List.mem_cons, List.mem_singleton, List.not_mem_nil, or_false, not_or]; exact ⟨hb1, hb2⟩) (Heap.get?_push_of_some _ (Heap.get?_push_of_some _ e))
      · cases r₂ with
        | error e => exact hr₂
        | ok fl₂ =>
          cases fl₂ with
          | ret r =>
            obtain ⟨rfl, h', tk, c', rfl, hS', hc', hk'⟩ := hr₂
            repeat (any_goals (first | assumption | wp_step))
            exact h _ _ _ hS' hc' hk'
          | _ => exact hr₂.elim
    | _ => exact hr.elim
end
section
variable {X : Cx} {W : WX} {a : Expr} {pa : PTE} {p p2 pos pos2 : Pos}
def rSetI (K : PySem.W.Frag) (w : World) : List V → Hp → VK → Prop := fun xs H Q => ∃ (p : Addr) (ns : List Int), xs = [V.ref p] ∧ (SqL K H p (ns.map V.int) ∨ SqT K H p (ns.map V.int)) ∧ ns.length ≤ 1000 ∧ ∀ D c, H D = none → c ≤ ns.length → Q (.ref D) (upd H D (SetO w D (fun j => decide (j ∈ ns)) c))
theorem cr_setI (hc : X.calm = true) : CallR X (.type "set") (rSetI X.K X.w) := by
  intro pins s σ H xs us Q I r h
  obtain ⟨p, ns, rfl, hs, hl, q⟩ := h
  rw [Vals.ref1 r]
  have hb : ns.length + 1 < scanBound := by
    have : (1000 : Nat) + 1 < scanBound := by decide
    omega
  have hn : H s.heap.objs.size = none := I.hok.fresh (Nat.le_refl _)
  rcases hs with hs | hs
  · obtain ⟨its, rv, pl, hz⟩ := I.list hs
    have hi : IntsAre its.toArray.toList ns := ints_of_vals rv
    refine call_set_lstI ns (I.ok.hd hc) (show s.heap.IsList p its.toArray from pl.isList) hi hb fun h' tk c R hcn k => ?_
    exact ⟨.ref _, upd H s.heap.objs.size (SetO X.w s.heap.objs.size (fun j => decide (j ∈ ns)) c), I.laid (t' := tk) (fun b u e => k b u e) (Nat.le_refl _) (setO_new R), rfl, q _ c hn hcn⟩
  · obtain ⟨its, rv, pl, hz⟩ := I.tuple hs
    have hi : IntsAre its.toArray.toList ns := ints_of_vals rv
    refine call_set_tupI ns (I.ok.hd hc) (show s.heap.IsTuple p its.toArray from pl) hi hb fun h' tk c R hcn k => ?_
    exact ⟨.ref _, upd H s.heap.objs.size (SetO X.w s.heap.objs.size (fun j => decide (j ∈ ns)) c), I.laid (t' := tk) (fun b u e => k b u e) (Nat.le_refl _) (setO_new R), rfl, q _ c hn hcn⟩
def dSortL (pe : PTE) : PTA := fun w ρ M q => pe w ρ M fun d M1 => ∃ ns : List Int, (d = .lst (ns.map .int) ∨ d = .tup (ns.map .int)) ∧ ns.length < 64 ∧ ∀ ms : List Int, ms.Pairwise (· < ·) → (∀ k, k ∈ ms ↔ k ∈ ns) → ms.length < 64 → q (ms.map .int) M1
theorem rpl_ints {K : PySem.W.Frag} {F : Hp} : ∀ {ns : List Int} {xs : List V}, RpL K F (ns.map .int) xs → xs = ns.map V.int
  | [], xs, h => h
  | n :: r, xs, h => by
    obtain ⟨v, t, e1, h1, h2⟩ := h
    have e2 : v = V.int n := h1
    rw [e1, e2, rpl_ints h2]; rfl
theorem dl_sortSetL (hc : X.calm = true) (hgs : Gl X "set") (hms : X.mg "set" = none) (hg : Gl X "sorted") (hm : X.mg "sorted" = none) (ha : DO X W a pa)
    (he : starEach [a] X.env = (false, eval a X.env) :: starEach [] X.env := by rfl) (hpl : (backTo pos (starEach [] X.env)).any (·.1) = false := by rfl)
    (he2 : starEach [Expr.Call (.Name "set" p) [a] [] pos] X.env = (false, eval (.Call (.Name "set" p) [a] [] pos) X.env) :: starEach [] X.env := by rfl) (hpl2 : (backTo pos2 (starEach [] X.env)).any (·.1) = false := by rfl) :
    DL X W (.Call (.Name "sorted" p2) [.Call (.Name "set" p) [a] [] pos] [] pos2) (dSortL pa) :=
  pe_imp (pe_callB (cr_sortedSet hc) hg hm (by decide +kernel) (pa_cons (pe_callTy (cr_setI hc) hgs hms (by decide +kernel) (pa_cons ha pa_nil he) (by decide) (by decide) he hpl) pa_nil he2) (by decide) (by decide) he2 hpl2) fun σ H Q ⟨g, ρ, M, F, O, q, w, A, pr, hw, k⟩ => by
    refine ⟨g, ρ, M, F, O, _, w, A, pr, hw, fun v H1 F1 O1 M1 d A1 s1 r1 q1 => ?_⟩
    obtain ⟨ns, hd, hl, q1⟩ := q1
    obtain ⟨pp, e1, hs⟩ : ∃ pp, v = V.ref pp ∧ (SqL X.K H1 pp (ns.map V.int) ∨ SqT X.K H1 pp (ns.map V.int)) := by
      rcases hd with rfl | rfl
      · obtain ⟨pp, xs, e1, h1, rl⟩ := r1.lst A1
        have ex := rpl_ints rl
        subst ex
        exact ⟨pp, e1, .inl (.inl (.inl h1))⟩
      · obtain ⟨pp, xs, e1, h1, rl⟩ := r1.tup A1
        have ex := rpl_ints rl
        subst ex
        exact ⟨pp, e1, .inr h1⟩
    refine ⟨pp, ns, by rw [e1], hs, by omega, fun D c hD hcn => ?_⟩
    have A2 := A1.laid (o := SetO X.w D (fun j => decide (j ∈ ns)) c) hD
    refine ⟨D, _, c, rfl, upd_same, by omega, fun ms p' h2 h3 h4 h5 => ?_⟩
    have q3 := q1 ms h2 (fun j => (h3 j).trans decide_eq_true_iff) (by omega)
    exact k p' (ms.map V.int) _ F1 O1 M1 _ (A2.laid h5) s1 upd_same (RpL.of_ints ms) (A2.f0 h5) (A2.o0 h5) (A2.g0 h5) q3
end
end Px
set_option Elab.async false
set_option linter.all false
set_option maxRecDepth 100000
namespace Px
open PySem PySem.Spec PyProof.Rows L2
section
variable {X : Cx} {W : WX} {a b o e : Expr} {pa pb po pe : PTE} {p p2 pos pos2 apos : Pos}
theorem rgV_ints (lo hi : Int) : rgV lo hi = ((List.range (hi - lo).toNat).map fun i : Nat => lo + (i : Int)).map V.int := by
  unfold rgV
  rw [List.map_map]; rfl
theorem rngD_ints (lo : Int) (n : Nat) : rngD lo n = ((List.range n).map fun i : Nat => lo + (i : Int)).map D.int := by
  unfold rngD
  rw [List.map_map]; rfl
def dLRg1 (pe : PTE) : PTA := fun w ρ M q => pe w ρ M fun d M1 => asIn d fun n => (-1000000 ≤ n ∧ n ≤ 1000000) ∧ q (rngD 0 n.toNat) M1
theorem asIn_is {d : D} {k : Int → Prop} (h : asIn d k) : ∃ i, d = .int i ∧ k i := by
  cases d with
  | int i => exact ⟨i, rfl, h⟩
  | _ => exact (show False from h).elim
theorem dl_lrg1 (hc : X.calm = true) (hgl : Gl X "list") (hml : X.mg "list" = none) (hg : Gl X "range") (hm : X.mg "range" = none) (ha : DE X W a pa)
    (na : starEach [a] X.env = (false, eval a X.env) :: starEach [] X.env := by rfl) (na2 : starEach [Expr.Call (.Name "range" p) [a] [] pos] X.env = (false, eval (.Call (.Name "range" p) [a] [] pos) X.env) :: starEach [] X.env := by rfl) :
    DL X W (.Call (.Name "list" p2) [.Call (.Name "range" p) [a] [] pos] [] pos2) (dLRg1 pa) :=
  pe_imp (pe_listRg hc hgl hml (prg_1 hg hm ha na) na2) fun σ H Q ⟨g, ρ, M, F, O, q, w, A, pr, hw, k⟩ => by
    refine ⟨g, ρ, M, F, O, _, w, A, pr, hw, fun v H1 F1 O1 M1 d A1 s1 r1 q1 => ?_⟩
    obtain ⟨n, rfl, ⟨b0, b1⟩, q2⟩ := asIn_is q1
    refine ⟨n, r1, ⟨by decide, by decide, by omega, by omega, by omega⟩, fun D hD => ?_⟩
    rw [rgV_ints, Int.sub_zero]
    rw [rngD_ints] at q2
    exact k D _ _ F1 O1 M1 _ (A1.laid hD) s1 upd_same (RpL.of_ints _) (A1.f0 hD) (A1.o0 hD) (A1.g0 hD) q2
def dJoin (po pe : PTE) : PTE := fun w ρ M q => po w ρ M fun d M1 => ∃ x, d = .str x ∧ pe w ρ M1 fun y M2 => ∃ ys : List Str, y = .lst (ys.map .str) ∧ (ys.map (·.length)).sum + ys.length * x.length ≤ 16777216 ∧ q (.str (Txt.join x ys)) M2
theorem rpl_strs {K : PySem.W.Frag} {F : Hp} : ∀ {ns : List Str} {xs : List V}, RpL K F (ns.map .str) xs → xs = ns.map V.str
  | [], xs, h => h
  | n :: r, xs, h => by
    obtain ⟨v, t, e1, h1, h2⟩ := h
    have e2 : v = V.str n := h1
    rw [e1, e2, rpl_strs h2]; rfl
theorem de_join (ho : DE X W o po) (he : DO X W e pe) (hs : starEach [e] X.env = [(false, eval e X.env)] := by rfl) (hbase : attributeBase o "join" X.env (eval o X.env) = eval o X.env := by rfl) (hline : (apos.endLine == pos.line) = true := by rfl) :
    DE X W (.Call (.Attribute o "join" apos) [e] [] pos) (dJoin po pe) :=
  pe_imp (pe_join ho he hs hbase hline) fun σ H Q ⟨g, ρ, M, F, O, q, w, A, pr, hw, k⟩ => by
    refine ⟨g, ρ, M, F, O, _, w, A, pr, hw, fun v H1 F1 O1 M1 d A1 s1 r1 q1 => ?_⟩
    obtain ⟨x, rfl, q1⟩ := q1
    refine ⟨⟨x, r1⟩, g, ρ, M1, F1, O1, _, w, A1, q1, hw.mono s1, fun u H2 F2 O2 M2 y A2 s2 r2 q2 => ?_⟩
    obtain ⟨ys, rfl, hz, q2⟩ := q2
    obtain ⟨pp, xs, e1, h1, rl⟩ := r2.lst A2
    have ex := rpl_strs rl
    subst ex
    exact ⟨x, pp, ys, r1, by rw [e1], .inl (.inl (.inl h1)), hz, k _ H2 F2 O2 M2 (.str (Txt.join x ys)) A2 (s1.trans s2) rfl q2⟩
end
end Px
set_option Elab.async false
set_option linter.all false
set_option maxRecDepth 100000
namespace Px
open PySem PySem.Spec PyProof.Rows L2
section
variable {X : Cx} {W : WX} {k n : Nat} {f C : Addr} {fd : FuncData} {ps ks : List Str} {sp : PSp} {x : Str} {p pos : Pos} {kws : List Keyword} {ix : List Nat} {pl : PTA}
end
end Px
set_option Elab.async false
set_option linter.all false
set_option maxRecDepth 100000
namespace Px
open PySem PySem.Spec PyProof.Rows L2
section
variable {X : Cx} {W : WX} {k n : Nat} {f C : Addr} {fd : FuncData} {ps : List Str} {sp : PSp} {pos : Pos} {a b : Expr} {pa pb : PTE}
end
end Px
set_option Elab.async false
set_option linter.all false
set_option maxRecDepth 100000
namespace Px
open PySem PySem.Spec PyProof.Rows L2
def chS (s : Str) : List D := s.cps.toList.map fun c => .str ⟨#[c]⟩
def fIxX : F2
  | .lst l, .int i, k => atD l i k
  | .tup l, .int i, k => atD l i k
  | .str z, .int i, k => z.length ≤ 1000000 ∧ ∃ c, atI z.cps.toList i = some c ∧ k (.str ⟨#[c]⟩)
  | _, _, _ => False
theorem opf_ixX {K : PySem.W.Frag} : OpF K (rIx K) fIxX := by
  intro g σ H ρ M F O x y v u k Q A rx ry h c
  unfold fIxX at h
  split at h
  · rename_i l i
    obtain ⟨d, h1, h2⟩ := h
    obtain ⟨p, xs, e1, hp, r1⟩ := rx.lst A
    obtain ⟨z, h3, r3⟩ := r1.atI h1
    exact .inl ⟨p, xs, i, z, e1, ry.int, .inl (.inl hp), h3, c d z H F O A (Same.refl F) r3 h2⟩
  · rename_i l i
    obtain ⟨d, h1, h2⟩ := h
    obtain ⟨p, xs, e1, hp, r1⟩ := rx.tup A
    obtain ⟨z, h3, r3⟩ := r1.atI h1
    exact .inr (.inl ⟨p, xs, i, z, e1, ry.int, hp, h3, c d z H F O A (Same.refl F) r3 h2⟩)
  · rename_i z i
    obtain ⟨hz, ch, h1, h2⟩ := h
    exact .inr (.inr ⟨z, i, ch, rx.str, ry.int, by rw [sizeLine_eq]; omega, h1, c (.str ⟨#[ch]⟩) (.str ⟨#[ch]⟩) H F O A (Same.refl F) rfl h2⟩)
  · exact h.elim
section
variable {X : Cx} {W : WX} {a b e i : Expr} {tg : Expr} {pa pb pe : PTE} {pos : Pos}
theorem de_ixX (ha : DO X W a pa) (hb : DO X W i pb) (hs : PlainIx i := by exact fun _ _ => rfl) : DE X W (.Subscript a i pos) (dOp fIxX pa pb) := pe_imp (pe_ix ix_seq ha hb hs) fun σ H Q h => op_run opf_ixX h
def iTx (pe : PTE) : PTA := fun w ρ M q => pe w ρ M fun d M' => match d with | .str s => q (chS s) M' | _ => False
theorem chS_len (s : Str) : (chS s).length = s.cps.size := by unfold chS; rw [List.length_map, Array.length_toList]
theorem wk_str {K : PySem.W.Frag} {F : Hp} {s : Str} : Wk K (Its s) F (chS s) where
  go := fun g σ ρ M F' O H i A _ hi => by rw [chS_len] at hi; exact hi
  yl := fun g σ ρ M F' O H i x H' d A _ hy hd => by
    obtain ⟨rfl, ch, hc, rfl⟩ := hy
    refine ⟨F', A, Same.refl F', ?_⟩
    unfold chS at hd
    rw [List.getElem?_map, Array.getElem?_toList, hc] at hd
    cases hd
    rfl
  sp := fun g σ ρ M F' O H A _ => by
    show s.cps.size ≤ (chS s).length
    rw [chS_len]; exact Nat.le_refl _
theorem di_str (h : DE X W e pe) : DI X W tg e (iTx pe) := pi_imp (pi_str h) fun σ H R ⟨g, ρ, M, F, O, q, w, A, pr, hw, k⟩ =>
  ⟨g, ρ, M, F, O, _, w, A, pr, hw, fun v H' F' O' M' d A' s r q => by
    cases d with
    | str x => exact ⟨x, r, k _ H' F' O' M' _ A' s wk_str q⟩
    | _ => exact (show False from q).elim⟩
def fInT (neg : Bool) : F2
  | .str i, .str j, k => k (.bl (if neg = true then !(!(Builtin.Str.occurrences j i 0 j.length 1).isEmpty) else !(Builtin.Str.occurrences j i 0 j.length 1).isEmpty))
  | _, _, _ => False
theorem opf_inT {K : PySem.W.Frag} : OpF K (fun x y H Q => ∃ i j, x = .str i ∧ y = .str j ∧ Q (.bl (!(Builtin.Str.occurrences j i 0 j.length 1).isEmpty)) H) (fInT false) := by
  intro g σ H ρ M F O x y v u k Q A rx ry h c
  unfold fInT at h
  split at h
  · rename_i x1 y1
    exact ⟨_, _, rx.str, ry.str, c (.bl (!(Builtin.Str.occurrences y1 x1 0 y1.length 1).isEmpty)) _ H F O A (Same.refl F) rfl h⟩
  · exact h.elim
theorem de_inT (ha : DO X W a pa) (hb : DO X W b pb) (hm : behindInMarks .In b = false := by rfl) : DE X W (.Compare a [.In] [b] pos) (dOp (fInT false) pa pb) := de_cmp op_in_str opf_inT ha hb hm
end
end Px
set_option Elab.async false
set_option linter.all false
set_option maxRecDepth 100000
namespace Px
open PySem PySem.Spec PyProof.Rows L2
section
variable {X : Cx} {W : WX} {k n : Nat} {f C : Addr} {fd : FuncData} {ps : List Str} {sp : PSp} {pos p : Pos} {a : Expr} {pa : PTE}
end
end Px
set_option Elab.async false
set_option linter.all false
set_option maxRecDepth 100000
namespace Px
open PySem PySem.Spec PyProof.Rows L2
section
variable {K : PySem.W.Frag} {X : Cx} {W : WX} {a b : Expr} {pa pb : PTE} {pos : Pos}
end
end Px
set_option Elab.async false
set_option linter.all false
set_option maxRecDepth 100000
namespace Px
open PySem PySem.Spec PyProof.Rows L2
def pkX : D → List D
  | .lst l => l
  | .str s => chS s
  | _ => []
def sp_pickX : PSp := fun ds M q _ => ar2 ds fun d x => asDraw d M ((0 < (pkX x).length ∧ (pkX x).length ≤ 100000) ∧ ∀ y ∈ pkX x, q y M)
def rd_pickX : PTS := (dRet (dOp fIxX (dVar 1) (dCall sp_take [] (dCons (dVar 0) (dCons (dB1 fLen (dVar 1)) dNil)))))
theorem sh_pickX : Shows sp_pickX 2 rd_pickX := by
  intro ds M q e h
  obtain ⟨d, x, rfl, h⟩ := ar2_of h
  obtain ⟨a, rfl, hM, ⟨h0, h1⟩, hq⟩ := asDraw_of h
  have big : (100000 : Int) ≤ 2 ^ 4000 := by decide
  cases x with
  | lst l =>
    have h0 : 0 < l.length := h0
    have h1 : l.length ≤ 100000 := h1
    refine ⟨hM, ⟨by omega, log_small (by omega) (by omega)⟩, fun k k0 k1 => ?_⟩
    obtain ⟨j, rfl⟩ : ∃ j : Nat, k = j := ⟨k.toNat, by omega⟩
    have hj : j < l.length := by omega
    exact ⟨l[j], atI_nat (List.getElem?_eq_getElem hj), M, MLe.refl M, hq _ (List.getElem_mem hj)⟩
  | str s =>
    have e1 : (chS s).length = s.cps.size := chS_len s
    have h0 : 0 < (chS s).length := h0
    have h1 : (chS s).length ≤ 100000 := h1
    have e2 : s.length = s.cps.size := rfl
    refine ⟨by omega, hM, ⟨by omega, log_small (by omega) (by omega)⟩, fun k k0 k1 => ?_⟩
    obtain ⟨j, rfl⟩ : ∃ j : Nat, k = j := ⟨k.toNat, by omega⟩
    have hj : j < s.cps.toList.length := by rw [Array.length_toList]; omega
    refine ⟨by omega, s.cps.toList[j], atI_nat (List.getElem?_eq_getElem hj), M, MLe.refl M, hq _ ?_⟩
    show _ ∈ chS s
    unfold chS
    exact List.mem_map.mpr ⟨_, List.getElem_mem hj, rfl⟩
  | _ => exact absurd h0 (by show ¬ 0 < 0; omega)
theorem pickX_of {ds : List D} {M : Mm} {q : PQ} {e : PX} (h : sp_pick ds M q e) : sp_pickX ds M q e := by
  obtain ⟨d, x, rfl, h⟩ := ar2_of h
  obtain ⟨l, rfl, h⟩ := asL_of h
  exact h
theorem toSp_wk {K : PySem.W.Frag} {n : Nat} {sp sp' : PSp} (h : ∀ ds M q e, sp' ds M q e → sp ds M q e) {vs : List V} {H : Hp} {Q : VK} {E : XK} (z : toSp K n sp' vs H Q E) : toSp K n sp vs H Q E := by
  obtain ⟨g, F, M, O, ds, q, e, h1, h2, h3, h4, h5⟩ := z
  exact ⟨g, F, M, O, ds, q, e, h1, h2, h3, h _ _ _ _ h4, h5⟩
theorem FnG.wk {P : Program} {w : World} {K : PySem.W.Frag} {mg : Str → Option Value} {base : Heap} {k n : Nat} {f : Addr} {fd : FuncData} {ps : List Str} {sp sp' : PSp} (Fg : FnG P w K mg base k f fd ps (toSp K n sp)) (h : ∀ ds M q e, sp' ds M q e → sp ds M q e) :
    FnG P w K mg base k f fd ps (toSp K n sp') := ⟨fun vs H Q E z => Fg.len vs H Q E (toSp_wk h z), fun A o s H a us vs Q E r g e b v z => Fg.run A o s H a us vs Q E r g e b v (toSp_wk h z)⟩
end Px
set_option Elab.async false
set_option linter.all false
set_option maxRecDepth 100000
namespace Px
open PySem PySem.Spec PyProof.Rows L2
def ltr (c : D) : Bool := match c with
  | .str z => !(Builtin.Str.occurrences "abcdefghijklmnopqrstuvwxyz" z 0 ("abcdefghijklmnopqrstuvwxyz" : Str).length 1).isEmpty
  | _ => false
def isWordD (d : D) : Bool := match d with
  | .str s => decide (1 ≤ s.length) && decide (s.length ≤ 8) && (chS s).all ltr
  | _ => false
def sp_is_word (C : Cl) : PSp := fun ds M q _ => ar1 ds fun d => (plain d = true ∧ ∀ s, d = .str s → s.length ≤ 1000000) ∧ q (.bl (isWordD d)) M
def rd_is_word (C : Cl) : PTS := (dSeq (dIfS (dOr (dNot (dTst (dB1 (fIsi "str") (dVar 0)))) (dNot (dTst (dChain fLe fLe (dC (.int 1)) (dB1 fLen (dVar 0)) (dC (.int 8)))))) (dRet (dC (.bl false))) dNext)
    (dRet (dB1 fAll (dL (dComp [1] (iTx (dVar 0)) (gNm 1) dYes (dOp (fInT false) (dVar 1) (dC (.str "abcdefghijklmnopqrstuvwxyz"))))))))
theorem sh_is_word (C : Cl) : Shows (sp_is_word C) 2 (rd_is_word C) := by
  intro ds M q e h
  obtain ⟨d, rfl, ⟨hp, hz⟩, hq⟩ := ar1_of h
  have hz := hz
  cases d with
  | str s =>
    have hz := hz s rfl
    have e2 : s.length = s.cps.size := rfl
    refine ⟨hz, ?_⟩
    show if decide ((1 : Int) ≤ (s.length : Int)) = true then _ else _
    by_cases c1 : (1 : Int) ≤ (s.length : Int)
    · refine itT (decide_eq_true c1) ?_
      show if (!decide ((s.length : Int) ≤ 8)) = true then _ else _
      by_cases c2 : (s.length : Int) ≤ 8
      · refine itF (by rw [decide_eq_true c2]; rfl) ?_
        refine ⟨rfl, ?_⟩
        refine compR_map (fun d => .bl (ltr d)) (chS s) (fun d hd kt kf k => ?_) (by rw [chS_len]; omega) ?_
        · obtain ⟨c, hc, rfl⟩ := List.mem_map.mp hd
          exact k
        · have e : boolsOf ((chS s).map fun d => D.bl (ltr d)) = some ((chS s).map ltr) := by
            generalize chS s = l
            induction l with
            | nil => rfl
            | cons a r ih =>
              show (boolsOf (r.map fun d => D.bl (ltr d))).map _ = _
              rw [ih]
              rfl
          show match boolsOf ((chS s).map fun d => D.bl (ltr d)) with | some bs => _ | _ => False
          rw [e]
          refine ⟨M, MLe.refl M, ?_⟩
          have e3 : ((chS s).map ltr).all id = isWordD (.str s) := by
            show _ = (decide (1 ≤ s.length) && decide (s.length ≤ 8) && (chS s).all ltr)
            rw [decide_eq_true (p := 1 ≤ s.length) (by omega), decide_eq_true (p := s.length ≤ 8) (by omega), List.all_map]
            rfl
          rw [e3]
          exact hq
      · refine itT (by rw [decide_eq_false c2]; rfl) ?_
        have e : isWordD (.str s) = false := by
          show (_ && decide (s.length ≤ 8) && _) = false
          rw [decide_eq_false (p := s.length ≤ 8) (by omega), Bool.and_false]
          rfl
        rw [e] at hq
        exact ⟨M, MLe.refl M, hq⟩
    · refine itF (decide_eq_false c1) ?_
      have e : isWordD (.str s) = false := by
        show (decide (1 ≤ s.length) && _ && _) = false
        rw [decide_eq_false (by omega)]
        rfl
      rw [e] at hq
      exact ⟨M, MLe.refl M, hq⟩
  | _ => first
    | exact ⟨M, MLe.refl M, hq⟩
    | exact absurd hp (by simp [plain, tyD])
end Px
set_option Elab.async false
set_option linter.all false
set_option maxRecDepth 100000
namespace Px
open PySem PySem.Spec PyProof.Rows L2
def ascD : Int → Int → List D → Bool
  | _, _, [] => true
  | last, half, d :: r => btwD d (last + 1) half && (match d with | .int i => ascD i half r | _ => false)
def areEndsD (d : D) (half : Int) : Bool := match d with
  | .tup l => decide (l.length ≤ 12) && ascD (-1) half l
  | _ => false
def sp_are_ends (C : Cl) : PSp := fun ds M q _ => ar2 ds fun d x => (plain d = true ∧ ∀ l, d = .tup l → ∀ y ∈ l, plain y = true) ∧ asI x fun half => q (.bl (areEndsD d half)) M
def bd_are_ends (C : Cl) : PTS := (dSeq (dIfS (dNot (dTst (dCall (sp_is_between C) [] (dCons (dVar 3) (dCons (dOp fAdd (dVar 2) (dC (.int 1))) (dCons (dVar 1) dNil)))))) (dRet (dC (.bl false))) dNext)
    (dSet 2 (dVar 3)))
def rd_are_ends (C : Cl) : PTS := (dSeq (dIfS (dOr (dNot (dTst (dB1 (fIsi "tuple") (dVar 0)))) (dTst (dOp fGt (dB1 fLen (dVar 0)) (dC (.int 12))))) (dRet (dC (.bl false))) dNext)
    (dSeq (dSet 2 (dNeg (dC (.int 1))))
    (dSeq (dFor (iA (dVar 0)) (gNm 3) (dSeq (dIfS (dNot (dTst (dCall (sp_is_between C) [] (dCons (dVar 3) (dCons (dOp fAdd (dVar 2) (dC (.int 1))) (dCons (dVar 1) dNil)))))) (dRet (dC (.bl false))) dNext)
    (dSet 2 (dVar 3))))
    (dRet (dC (.bl true))))))
theorem ends_loop (C : Cl) {w : PWi} {P : PEnds} {M : Mm} {h : Int} {x0 : Option Sv} : ∀ (l : List D) (last : Int) (x3 : Option Sv), (∀ d ∈ l, plain d = true) → (ascD last h l = true → ∀ b c, P.nx [x0, some (.val (.int h)), b, c] M) → (ascD last h l = false → P.rt (.bl false) M) →
    forR (gNm 3) (bd_are_ends C) w l P [x0, some (.val (.int h)), some (.val (.int last)), x3] M
  | [], last, x3, _, h1, _ => h1 rfl _ _
  | d :: r, last, x3, hp, h1, h2 => by
    refine ⟨hp d List.mem_cons_self, ?_⟩
    show if (!btwD d (last + 1) h) = true then _ else _
    by_cases c : btwD d (last + 1) h = true
    · refine itF (by rw [c]; rfl) ?_
      cases d with
      | int i =>
        have e : ascD last h (.int i :: r) = ascD i h r := by
          show (btwD (.int i) (last + 1) h && ascD i h r) = _
          rw [c]
          rfl
        exact ends_loop C r i _ (fun y hy => hp y (List.mem_cons_of_mem _ hy)) (fun z => h1 (e.trans z)) fun z => h2 (e.trans z)
      | _ => exact absurd c (by simp [btwD])
    · have c : btwD d (last + 1) h = false := by simpa using c
      refine itT (by rw [c]; rfl) ?_
      refine h2 ?_
      show (btwD d (last + 1) h && _) = false
      rw [c]
      rfl
theorem sh_are_ends (C : Cl) : Shows (sp_are_ends C) 4 (rd_are_ends C) := by
  intro ds M q e hh
  obtain ⟨d, x, rfl, ⟨hp, hl⟩, hh⟩ := ar2_of hh
  obtain ⟨half, rfl, hq⟩ := asI_of hh
  cases d with
  | tup l =>
    show if decide ((l.length : Int) > 12) = true then _ else _
    by_cases c : (l.length : Int) > 12
    · refine itT (decide_eq_true c) ?_
      have e : areEndsD (.tup l) half = false := by
        show (decide (l.length ≤ 12) && _) = false
        rw [decide_eq_false (by omega)]
        rfl
      rw [e] at hq
      exact ⟨M, MLe.refl M, hq⟩
    · refine itF (decide_eq_false c) ?_
      have e : areEndsD (.tup l) half = ascD (-1) half l := by
        show (decide (l.length ≤ 12) && _) = _
        rw [decide_eq_true (by omega)]
        rfl
      rw [e] at hq
      refine ends_loop C l (-1) _ (hl l rfl) (fun z b c => ?_) fun z => ?_
      · exact ⟨M, MLe.refl M, z ▸ hq⟩
      · exact ⟨M, MLe.refl M, z ▸ hq⟩
  | _ => first
    | exact ⟨M, MLe.refl M, hq⟩
    | exact absurd hp (by simp [plain, tyD])
end Px
set_option Elab.async false
set_option linter.all false
set_option maxRecDepth 100000
namespace Px
open PySem PySem.Spec PyProof.Rows L2
def fEq0 (neg : Bool) : F2
  | .tup l, .tup [], k => k (.bl (if neg = true then !l.isEmpty else l.isEmpty))
  | _, _, _ => False
def rEq0 (K : PySem.W.Frag) (neg : Bool) : R2 := fun x y H Q => ∃ a b xs, x = .ref a ∧ y = .ref b ∧ SqT K H a xs ∧ SqT K H b [] ∧ Q (.bl (if neg = true then !xs.isEmpty else xs.isEmpty)) H
theorem op_eq0 {X : Cx} (hu : X.A.units + 64 < cLine) : OpR X (compareOp .Eq) (rEq0 X.K false) := by
  intro pins s σ H x y v u Q I rx ry h
  obtain ⟨a, b, xs, rfl, rfl, ha, hb, q⟩ := h
  obtain ⟨its, rv, p, _⟩ := I.tuple ha
  obtain ⟨jts, rw2, p2, _⟩ := I.tuple hb
  have ej : jts = [] := by cases rw2; rfl
  subst ej
  have ex : v = .ref a := rx
  have ey : u = .ref b := ry
  subst ex ey
  refine SeqAt.rcIn_tuples (items := its.toArray) (items2 := #[]) (e := fun _ => true) p p2 (by omega) (fun j h1 h2 => absurd h2 (by simp)) ?_
  have e : ((List.range (min its.toArray.size (#[] : Array Value).size)).all (fun _ => true) && its.toArray.size == (#[] : Array Value).size) = xs.isEmpty := by
    have := rv.length
    cases xs with
    | nil => cases its with | nil => rfl | cons _ _ => simp at this
    | cons _ _ => cases its with | nil => simp at this | cons _ _ => simp
  rw [e]
  exact ⟨.bl _, H, I, rfl, q⟩
theorem opf_eq0 {K : PySem.W.Frag} : OpF K (rEq0 K false) (fEq0 false) := by
  intro g σ H ρ M F O x y v u k Q A rx ry h c
  unfold fEq0 at h
  split at h
  · rename_i l
    obtain ⟨p, xs, e1, hp, r1⟩ := rx.tup A
    obtain ⟨p2, ys, e2, hp2, r2⟩ := ry.tup A
    have ey : ys = [] := r2
    subst ey
    refine ⟨p, p2, xs, e1, e2, hp, hp2, ?_⟩
    have e : l.isEmpty = xs.isEmpty := by
      have := r1.len
      cases l <;> cases xs <;> first | rfl | (simp at this)
    rw [← e]
    exact c (.bl l.isEmpty) _ H F O A (Same.refl F) rfl h
  · exact h.elim
section
variable {X : Cx} {W : WX} {a b : Expr} {pa pb : PTE} {pos : Pos}
theorem dt_eq0 (hu : X.A.units + 64 < cLine) (ha : DO X W a pa) (hb : DO X W b pb) : DT X W (.Compare a [.Eq] [b] pos) (dTst (dOp (fEq0 false) pa pb)) := dt_cmp (op_eq0 hu) opf_eq0 ha hb (nomark _)
end
end Px
set_option Elab.async false
set_option linter.all false
set_option maxRecDepth 100000
namespace Px
open PySem PySem.Spec PyProof.Rows L2
theorem at0 {a : D} {r : List D} : atI (a :: r) (0 : Int) = some a := atI_nat (j := 0) rfl
theorem at1 {a b : D} {r : List D} : atI (a :: b :: r) (1 : Int) = some b := atI_nat (j := 1) rfl
theorem at2 {a b c : D} {r : List D} : atI (a :: b :: c :: r) (2 : Int) = some c := atI_nat (j := 2) rfl
theorem at3 {a b c d : D} {r : List D} : atI (a :: b :: c :: d :: r) (3 : Int) = some d := atI_nat (j := 3) rfl
def isTellD : List D → Bool
  | [.str s, x] => decide (s = "tell") && isWordD x
  | _ => false
def isLookD (many : Int) : List D → Bool
  | [.str s, .int h, .tup e, .tup g] => decide (s = "look") && (btwD (.int h) 1 1000 && (areEndsD (.tup e) h && (decide (g.length = 2 * e.length + 1) && g.all fun d => btwD d 0 (many - 1))))
  | _ => false
def isRowD (d : D) (many : Int) : Bool := match d with
  | .tup l => isTellD l || isLookD many l
  | _ => false
theorem SOk.len {s : Str} (h : SOk s) : s.length ≤ 211 := by
  have := h.2.2
  simp only [PyData.weight] at this
  exact this
theorem Gd.str {L B n : Nat} {s : Str} (h : Gd L B n (.str s)) : SOk s := by cases n <;> (simp only [Gd] at h; exact h)
theorem boolsOf_mp (f : D → Bool) (l : List D) : boolsOf (l.map fun d => D.bl (f d)) = some (l.map f) := by
  induction l with
  | nil => rfl
  | cons a r ih =>
    show (boolsOf (r.map fun d => D.bl (f d))).map _ = _
    rw [ih]
    rfl
def sp_is_row (C : Cl) : PSp := fun ds M q _ => ar2 ds fun d x => asI x fun many => (∃ L B n, Gd L B n d ∧ L ≤ 100000) ∧ q (.bl (isRowD d many)) M
def rd_is_row (C : Cl) : PTS := (dSeq (dIfS (dOr (dNot (dTst (dB1 (fIsi "tuple") (dVar 0)))) (dTst (dOp fLt (dB1 fLen (dVar 0)) (dC (.int 2))))) (dRet (dC (.bl false))) dNext)
    (dSeq (dIfS (dAnd (dTst (dB1 (fIsi "str") (dOp fIx (dVar 0) (dC (.int 0))))) (dTst (dOp fEq (dOp fIx (dVar 0) (dC (.int 0))) (dC (.str "tell"))))) (dRet (dAndV (dOp fEq (dB1 fLen (dVar 0)) (dC (.int 2))) (dCall (sp_is_word C) [] (dCons (dOp fIx (dVar 0) (dC (.int 1))) dNil)))) dNext)
    (dSeq (dIfS (dOr (dTst (dOp fNe (dB1 fLen (dVar 0)) (dC (.int 4)))) (dOr (dNot (dTst (dB1 (fIsi "str") (dOp fIx (dVar 0) (dC (.int 0)))))) (dTst (dOp fNe (dOp fIx (dVar 0) (dC (.int 0))) (dC (.str "look")))))) (dRet (dC (.bl false))) dNext)
    (dSeq (dIfS (dOr (dNot (dTst (dCall (sp_is_half C) [] (dCons (dOp fIx (dVar 0) (dC (.int 1))) dNil)))) (dOr (dNot (dTst (dCall (sp_are_ends C) [] (dCons (dOp fIx (dVar 0) (dC (.int 2))) (dCons (dOp fIx (dVar 0) (dC (.int 1))) dNil))))) (dNot (dTst (dB1 (fIsi "tuple") (dOp fIx (dVar 0) (dC (.int 3)))))))) (dRet (dC (.bl false))) dNext)
    (dRet (dAndV (dOp fEq (dB1 fLen (dOp fIx (dVar 0) (dC (.int 3)))) (dOp fAdd (dOp fMul (dC (.int 2)) (dB1 fLen (dOp fIx (dVar 0) (dC (.int 2))))) (dC (.int 1)))) (dB1 fAll (dL (dComp [2] (iA (dOp fIx (dVar 0) (dC (.int 3)))) (gNm 2) dYes (dCall (sp_is_between C) [] (dCons (dVar 2) (dCons (dC (.int 0)) (dCons (dOp fSub (dVar 1) (dC (.int 1))) dNil)))))))))))))
theorem isRow_no {d : D} {l : List D} {many : Int} (h : isTellD l = false) (h2 : isLookD many l = false) : isRowD (.tup l) many = false := by
  show (isTellD l || isLookD many l) = false
  rw [h, h2]; rfl
theorem tell_len {l : List D} (h : l.length ≠ 2) : isTellD l = false := by
  unfold isTellD
  split
  · exact absurd rfl h
  · rfl
theorem look_len {l : List D} {many : Int} (h : l.length ≠ 4) : isLookD many l = false := by
  unfold isLookD
  split
  · exact absurd rfl h
  · rfl
set_option maxHeartbeats 2000000 in
theorem sh_is_row (C : Cl) : Shows (sp_is_row C) 3 (rd_is_row C) := by
  intro ds M q e h
  obtain ⟨d, x, rfl, h⟩ := ar2_of h
  obtain ⟨many, rfl, ⟨L, B, n, hg, hL⟩, hq⟩ := asI_of h
  have ok : ∀ {b}, isRowD d many = b → ∃ M2, MLe M2 M ∧ q (.bl b) M2 := fun z => ⟨M, MLe.refl M, z ▸ hq⟩
  cases d with
  | tup l =>
    obtain ⟨m, rfl, hl, hs⟩ := hg.tup
    show if decide ((l.length : Int) < 2) = true then _ else _
    by_cases c : (l.length : Int) < 2
    · exact itT (decide_eq_true c) (ok (isRow_no (d := .non) (tell_len (by omega)) (look_len (by omega))))
    refine itF (decide_eq_false c) ?_
    obtain ⟨a, b, r, rfl⟩ : ∃ a b r, l = a :: b :: r := by
      match l, c with
      | [], c => exact absurd (show ((0 : Nat) : Int) < 2 by omega) c
      | [_], c => exact absurd (show ((1 : Nat) : Int) < 2 by omega) c
      | a :: b :: r, _ => exact ⟨a, b, r, rfl⟩
    have ga := hs a List.mem_cons_self
    have gb := hs b (List.mem_cons_of_mem _ List.mem_cons_self)
    refine ⟨a, at0, ?_⟩
    have rest : (∀ s, a = .str s → s ≠ "tell") → ∀ (w : PWi) (P : PEnds), P.rt = (fun d M' => ∃ M2, MLe M2 M' ∧ q d M2) → (dSeq (dIfS (dOr (dTst (dOp fNe (dB1 fLen (dVar 0)) (dC (.int 4)))) (dOr (dNot (dTst (dB1 (fIsi "str") (dOp fIx (dVar 0) (dC (.int 0)))))) (dTst (dOp fNe (dOp fIx (dVar 0) (dC (.int 0))) (dC (.str "look")))))) (dRet (dC (.bl false))) dNext)
    (dSeq (dIfS (dOr (dNot (dTst (dCall (sp_is_half C) [] (dCons (dOp fIx (dVar 0) (dC (.int 1))) dNil)))) (dOr (dNot (dTst (dCall (sp_are_ends C) [] (dCons (dOp fIx (dVar 0) (dC (.int 2))) (dCons (dOp fIx (dVar 0) (dC (.int 1))) dNil))))) (dNot (dTst (dB1 (fIsi "tuple") (dOp fIx (dVar 0) (dC (.int 3)))))))) (dRet (dC (.bl false))) dNext)
    (dRet (dAndV (dOp fEq (dB1 fLen (dOp fIx (dVar 0) (dC (.int 3)))) (dOp fAdd (dOp fMul (dC (.int 2)) (dB1 fLen (dOp fIx (dVar 0) (dC (.int 2))))) (dC (.int 1)))) (dB1 fAll (dL (dComp [2] (iA (dOp fIx (dVar 0) (dC (.int 3)))) (gNm 2) dYes (dCall (sp_is_between C) [] (dCons (dVar 2) (dCons (dC (.int 0)) (dCons (dOp fSub (dVar 1) (dC (.int 1))) dNil)))))))))))
        w P [some (.val (.tup (a :: b :: r))), some (.val (.int many)), none] M := by
      intro nt w P hP
      have ok : ∀ {b1}, isRowD (.tup (a :: b :: r)) many = b1 → P.rt (.bl b1) M := fun z => by rw [hP]; exact ok z
      have nt2 : isTellD (a :: b :: r) = false := by
        unfold isTellD
        split
        · rename_i s x heq
          cases heq
          rw [decide_eq_false (nt s rfl)]; rfl
        · rfl
      refine ⟨rfl, ?_⟩
      show if (!decide (((a :: b :: r).length : Int) = 4)) = true then _ else _
      by_cases c4 : ((a :: b :: r).length : Int) = 4
      · rw [decide_eq_true c4]
        refine itF rfl ?_
        obtain ⟨cc, dd, rfl⟩ : ∃ cc dd, r = [cc, dd] := by
          match r, c4 with
          | [cc, dd], _ => exact ⟨cc, dd, rfl⟩
          | [], c4 => exact absurd c4 (by show ¬ ((2 : Nat) : Int) = 4; omega)
          | [_], c4 => exact absurd c4 (by show ¬ ((3 : Nat) : Int) = 4; omega)
          | _ :: _ :: _ :: r, c4 => exact absurd c4 (by simp only [List.length_cons]; omega)
        have gc := hs cc (by simp)
        have gd := hs dd (by simp)
        refine ⟨a, at0, ?_⟩
        cases a with
        | str s =>
          refine ⟨.str s, at0, by show (PyData.strOk s && _) = true; rw [ga.str.1]; decide +kernel, ?_⟩
          show if (!decide (s = "look")) = true then _ else _
          by_cases cl : s = "look"
          · rw [decide_eq_true cl]
            refine itF rfl ?_
            refine ⟨b, at1, gb.plain, ?_⟩
            show if (!btwD b 1 1000) = true then _ else _
            by_cases ch : btwD b 1 1000 = true
            · rw [ch]
              refine itF rfl ?_
              cases b with
              | int half =>
                refine ⟨cc, at2, .int half, at1, ⟨gc.plain, fun l2 e2 y hy => ?_⟩, ?_⟩
                · subst e2
                  obtain ⟨m2, _, _, h2⟩ := gc.tup
                  exact (h2 y hy).plain
                show if (!areEndsD cc half) = true then _ else _
                by_cases ce : areEndsD cc half = true
                · rw [ce]
                  refine itF rfl ?_
                  cases cc with
                  | tup el =>
                    have ce' : (decide (el.length ≤ 12) && ascD (-1) half el) = true := ce
                    have el12 : el.length ≤ 12 := by simp only [Bool.and_eq_true, decide_eq_true_eq] at ce'; exact ce'.1
                    refine ⟨dd, at3, ?_⟩
                    cases dd with
                    | tup gl =>
                      obtain ⟨m3, _, hl3, h3⟩ := gd.tup
                      refine ⟨.tup gl, at3, .tup el, at2, cmul_of (a := 2) (b := 64) (by decide) (by show (el.length : Int).natAbs < 2 ^ 64; omega) (by decide), rfl, ?_⟩
                      show if decide ((gl.length : Int) = 2 * (el.length : Int) + 1) = true then _ else _
                      have eR : isRowD (.tup [.str s, .int half, .tup el, .tup gl]) many = (decide (gl.length = 2 * el.length + 1) && gl.all fun d => btwD d 0 (many - 1)) := by
                        simp only [isRowD, isLookD, nt2, Bool.false_or, decide_eq_true cl, ch, ce, Bool.true_and]
                      by_cases cn : (gl.length : Int) = 2 * (el.length : Int) + 1
                      · refine itT (decide_eq_true cn) ?_
                        refine ⟨rfl, .tup gl, at3, ?_⟩
                        refine compR_map (fun d => .bl (btwD d 0 (many - 1))) gl (fun d hd kt kf k => ?_) (by omega) ?_
                        · exact ⟨(h3 d hd).plain, k⟩
                        · show match boolsOf (gl.map fun d => D.bl (btwD d 0 (many - 1))) with | some bs => _ | _ => False
                          rw [boolsOf_mp]
                          refine ok ?_
                          rw [eR, decide_eq_true (by omega), List.all_map]
                          rfl
                      · refine itF (decide_eq_false cn) (ok ?_)
                        rw [eR, decide_eq_false (by omega)]; rfl
                    | _ => first | exact ok (isRow_no (d := .non) nt2 rfl) | exact absurd gd.plain (by simp [plain, tyD])
                  | _ => exact absurd ce (by simp [areEndsD])
                · rw [Bool.not_eq_true] at ce
                  rw [ce]
                  refine itT rfl (ok (isRow_no (d := .non) nt2 ?_))
                  cases cc <;> first | rfl | (cases dd <;> first | rfl | (show (_ && (_ && (areEndsD _ half && _))) = false; rw [ce]; simp))
              | _ => exact absurd ch (by simp [btwD])
            · rw [Bool.not_eq_true] at ch
              rw [ch]
              refine itT rfl (ok (isRow_no (d := .non) nt2 ?_))
              cases b <;> first | rfl | (cases cc <;> first | rfl | (cases dd <;> first | rfl | (show (_ && (btwD (.int _) 1 1000 && _)) = false; rw [ch]; simp)))
          · rw [decide_eq_false cl]
            refine itT rfl (ok (isRow_no (d := .non) nt2 ?_))
            cases b <;> first | rfl | (cases cc <;> first | rfl | (cases dd <;> first | rfl | (show (decide (s = "look") && _) = false; rw [decide_eq_false cl]; rfl)))
        | _ => first | exact ok (isRow_no (d := .non) nt2 rfl) | exact absurd ga.plain (by simp [plain, tyD])
      · rw [decide_eq_false c4]
        exact itT rfl (ok (isRow_no (d := .non) nt2 (look_len (by omega))))
    cases a with
    | str s =>
      refine ⟨.str s, at0, by show (PyData.strOk s && _) = true; rw [ga.str.1]; decide +kernel, ?_⟩
      show if decide (s = "tell") = true then _ else _
      by_cases ct : s = "tell"
      · refine itT (decide_eq_true ct) ⟨rfl, ?_⟩
        have nl : isLookD many (.str s :: b :: r) = false := by
          unfold isLookD
          split
          · rename_i heq
            cases heq
            rw [ct]
            show (decide (("tell" : Str) = "look") && _) = false
            rw [decide_eq_false (by decide +kernel)]; rfl
          · rfl
        show if decide (((D.str s :: b :: r).length : Int) = 2) = true then _ else _
        by_cases c2 : ((D.str s :: b :: r).length : Int) = 2
        · refine itT (decide_eq_true c2) ?_
          obtain rfl : r = [] := by
            cases r with
            | nil => rfl
            | cons _ _ => exact absurd c2 (by simp only [List.length_cons]; omega)
          refine ⟨b, at1, ⟨gb.plain, fun s2 e2 => by subst e2; have := gb.str.len; omega⟩, ok ?_⟩
          show (isTellD [.str s, b] || _) = _
          rw [nl, Bool.or_false]
          show (decide (s = "tell") && isWordD b) = _
          rw [decide_eq_true ct]; rfl
        · exact itF (decide_eq_false c2) (ok (isRow_no (d := .non) (tell_len (by omega)) nl))
      · exact itF (decide_eq_false ct) (rest (fun s2 e2 => by cases e2; exact ct) _ _ rfl)
    | _ => first | exact rest (fun s2 e2 => by cases e2) _ _ rfl | exact absurd ga.plain (by simp [plain, tyD])
  | _ => first | exact ok rfl | exact absurd hg.plain (by simp [plain, tyD])
end Px
set_option Elab.async false
set_option linter.all false
set_option maxRecDepth 100000
namespace Px
def fo (h z : Int) : Int := if 4 * h - z % (4 * h) < z % (4 * h) then 4 * h - z % (4 * h) else z % (4 * h)
def Per (d : Int) (f : Int → Bool) : Prop := 0 < d ∧ (∀ z, f (z + 4 * d) = f z) ∧ ∀ z, f (-z) = f z
theorem Per.mulN {d : Int} {f : Int → Bool} (h : Per d f) : ∀ (k : Nat) (z : Int), f (z + 4 * d * k) = f z
  | 0, z => by rw [show z + 4 * d * ((0 : Nat) : Int) = z by simp]
  | k + 1, z => by
    have e : z + 4 * d * ((k + 1 : Nat) : Int) = (z + 4 * d * k) + 4 * d := by
      rw [Int.natCast_succ, Int.mul_add]; omega
    rw [e, h.2.1, Per.mulN h k z]
theorem Per.mul {d : Int} {f : Int → Bool} (h : Per d f) (k z : Int) : f (z + 4 * d * k) = f z := by
  rcases Int.le_total 0 k with c | c
  · have e : k = (k.toNat : Int) := by omega
    rw [e]; exact h.mulN _ z
  · have e : k = -((-k).toNat : Int) := by omega
    have := h.mulN (-k).toNat (z + 4 * d * k)
    rw [← this]
    congr 1
    have e2 : ((-k).toNat : Int) = -k := by omega
    rw [e2, Int.mul_neg]; omega
theorem fo_cases (h z : Int) : (∃ k, fo h z = z + 4 * h * k) ∨ ∃ k, fo h z = -(z + 4 * h * k) := by
  have e := Int.emod_def z (4 * h)
  unfold fo
  split
  · right
    refine ⟨-(z / (4 * h)) - 1, ?_⟩
    rw [e, Int.mul_sub, Int.mul_neg]; omega
  · left
    refine ⟨-(z / (4 * h)), ?_⟩
    rw [e, Int.mul_neg]; omega
theorem Per.fo {d : Int} {f : Int → Bool} (h : Per d f) (z : Int) : f (fo d z) = f z := by
  rcases fo_cases d z with ⟨k, e⟩ | ⟨k, e⟩
  · rw [e, h.mul]
  · rw [e, h.2.2, h.mul]
theorem fo_nn {h z : Int} (hh : 0 < h) : 0 ≤ fo h z := by
  have := Int.emod_nonneg z (show 4 * h ≠ 0 by omega)
  have := Int.emod_lt_of_pos z (show 0 < 4 * h by omega)
  unfold fo; split <;> omega
theorem fo_le {h z : Int} (hh : 0 < h) : fo h z ≤ 2 * h := by
  unfold fo; split <;> omega
theorem Per.ext {h : Int} {f g : Int → Bool} (hf : Per h f) (hg : Per h g) (e : ∀ z, 0 ≤ z → z ≤ 2 * h → f z = g z) : f = g := funext fun z => by
  rw [← hf.fo z, ← hg.fo z]
  exact e _ (fo_nn hf.1) (fo_le hf.1)
theorem Per.up {d h : Int} {f : Int → Bool} (hf : Per d f) (h0 : 0 < h) (hd : d ∣ h) : Per h f := ⟨h0, fun z => by
  obtain ⟨k, rfl⟩ := hd
  rw [← Int.mul_assoc]
  exact hf.mul k z, hf.2.2⟩
def Least (d : Int) (f : Int → Bool) : Prop := Per d f ∧ ∀ e, Per e f → d ≤ e
theorem least_ex {h : Int} {f : Int → Bool} (hf : Per h f) : ∃ d, Least d f := by
  have key : ∀ (n : Nat), (∃ d, Per d f ∧ d.toNat ≤ n) → ∃ d, Least d f := by
    intro n
    induction n with
    | zero => rintro ⟨d, hd, hn⟩; have := hd.1; omega
    | succ n ih =>
      rintro ⟨d, hd, hn⟩
      by_cases c : ∃ e, Per e f ∧ e.toNat ≤ n
      · exact ih c
      · refine ⟨d, hd, fun e he => ?_⟩
        by_cases c2 : d ≤ e
        · exact c2
        · exfalso
          have := hd.1
          have := he.1
          exact c ⟨e, he, by omega⟩
  exact key _ ⟨h, hf, Nat.le_refl _⟩
open Classical in
noncomputable def lh (f : Int → Bool) : Int := if h : ∃ d, Least d f then Classical.choose h else 1
theorem lh_is {h : Int} {f : Int → Bool} (hf : Per h f) : Least (lh f) f := by
  have e := least_ex hf
  unfold lh
  rw [dif_pos e]
  exact Classical.choose_spec e
theorem lh_per {h : Int} {f : Int → Bool} (hf : Per h f) : Per (lh f) f := (lh_is hf).1
def Pri (q : Int) : Prop := 2 ≤ q ∧ ∀ r, 2 ≤ r → r ∣ q → r = q
end Px
set_option Elab.async false
set_option linter.all false
set_option maxRecDepth 100000
namespace Px
def stp (s : List (Int × Int) × Option Int) (i : Int) (b : Bool) : List (Int × Int) × Option Int := match b, s.2 with
  | true, none => (s.1, some i)
  | false, some k => (s.1 ++ [(k, i - 1)], none)
  | _, _ => s
def rs (f : Int → Bool) : Nat → List (Int × Int) × Option Int
  | 0 => ([], none)
  | n + 1 => stp (rs f n) n (f n)
def runs (f : Int → Bool) (n : Nat) : List (Int × Int) := (stp (rs f n) n false).1
def SwI (ss : List (Int × Int)) (z : Int) (k : Nat) (last : Int) : Prop := k ≤ ss.length ∧ (∀ i p, i < k → ss[i]? = some p → p.1 ≤ z ∧ p.2 ≤ last) ∧ (last = -1 ∨ ∃ i p, i < k ∧ ss[i]? = some p ∧ p.2 = last)
theorem SwI.up {ss : List (Int × Int)} {z y : Int} {k : Nat} {last : Int} (h : SwI ss z k last) (c : z ≤ y) : SwI ss y k last := ⟨h.1, fun i p hi e => by have := h.2.1 i p hi e; omega, h.2.2⟩
end Px
set_option Elab.async false
set_option linter.all false
set_option maxRecDepth 100000
namespace Px
open PySem PySem.Spec PyProof.Rows L2
theorem MLe.trans {M1 M2 M3 : Mm} (h : MLe M1 M2) (k : MLe M2 M3) : MLe M1 M3 := fun a mo e => k a mo (h a mo e)
def sp__law_half (C : Cl) : PSp := fun ds M q _ => ar1 ds fun d => asDraw d M (∀ n : Int, 1 ≤ n → n ≤ 60 → q (.int n) M)
def rd__law_half (C : Cl) : PTS := (dSeq (dSet 1 (dL (dLst (dCons (dOp fAdd (dC (.int 1)) (dCall sp_take [] (dCons (dVar 0) (dCons (dC (.int 6)) dNil)))) (dCons (dOp fAdd (dC (.int 1)) (dCall sp_take [] (dCons (dVar 0) (dCons (dC (.int 12)) dNil)))) (dCons (dCall sp_pick [] (dCons (dVar 0) (dCons (dL (dLst (dCons (dC (.int 6)) (dCons (dC (.int 10)) (dCons (dC (.int 12)) (dCons (dC (.int 15)) (dCons (dC (.int 20)) (dCons (dC (.int 24)) (dCons (dC (.int 30)) (dCons (dC (.int 36)) dNil)))))))))) dNil))) dNil))))))
    (dRet (dCall sp_pick [] (dCons (dVar 0) (dCons (dOp fAdd (dVar 1) (dL (dLst (dCons (dOp fAdd (dC (.int 1)) (dCall sp_take [] (dCons (dVar 0) (dCons (dC (.int 60)) dNil)))) dNil)))) dNil)))))
theorem tk_of {n : Int} (h : 0 < n) (h' : n ≤ 10 ^ 20) : 0 < n ∧ n.natAbs.log2 < 9000 := ⟨h, SzB.log (m := 70) (SzB.of (by omega) (by omega))⟩
theorem sh__law_half (C : Cl) : Shows (sp__law_half C) 2 (rd__law_half C) := by
  intro ds M q e h
  obtain ⟨d, rfl, h⟩ := ar1_of h
  obtain ⟨a, rfl, hm, hq⟩ := asDraw_of h
  refine ⟨hm, tk_of (by decide) (by decide), fun k k0 k1 => ⟨hm, tk_of (by decide) (by decide), fun l l0 l1 => ⟨by simp, hm, ⟨by simp, by simp⟩, fun x hx => ?_⟩⟩⟩
  obtain ⟨n, rfl, n1, n2⟩ : ∃ n : Int, x = .int n ∧ 1 ≤ n ∧ n ≤ 36 := by
    simp only [List.mem_cons, List.not_mem_nil, or_false] at hx
    rcases hx with rfl | rfl | rfl | rfl | rfl | rfl | rfl | rfl <;> exact ⟨_, rfl, by decide, by decide⟩
  refine ⟨by simp, hm, tk_of (by decide) (by decide), fun t t0 t1 => ⟨by simp, by simp, hm, ⟨by simp, by simp⟩, fun y hy => ?_⟩⟩
  simp only [List.cons_append, List.nil_append, List.mem_cons, List.not_mem_nil, or_false] at hy
  rcases hy with rfl | rfl | rfl | rfl
  · exact ⟨M, MLe.refl _, hq _ (by omega) (by omega)⟩
  · exact ⟨M, MLe.refl _, hq _ (by omega) (by omega)⟩
  · exact ⟨M, MLe.refl _, hq _ (by omega) (by omega)⟩
  · exact ⟨M, MLe.refl _, hq _ (by omega) (by omega)⟩
def rd__law_halves (C : Cl) : PTS := (dSeq (dSetO 3 (dLst (dCons (dOp fMin2 (dCall (sp__law_half C) [] (dCons (dVar 0) dNil)) (dVar 2)) dNil)))
    (dSeq (dFor (iR1 (dCall sp_take [] (dCons (dVar 0) (dCons (dVar 1) dNil)))) (gNm 4) (dSeq (dSet 5 (dCall sp_pick [] (dCons (dVar 0) (dCons (dL (dLst (dCons (dCall (sp__law_half C) [] (dCons (dVar 0) dNil)) (dCons (dOp fMul (dOp fIx (dOwn 3) (dC (.int 0))) (dC (.int 2))) (dCons (dOp fIx (dOwn 3) (dNeg (dC (.int 1)))) dNil))))) dNil))))
    (dIfS (dAnd (dTst (dOp fLe (dVar 5) (dC (.int 1000)))) (dTst (dOp fLe (dCall (sp__law_lcm C) [] (dCons (dOp fAdd (dOwn 3) (dL (dLst (dCons (dVar 5) dNil)))) dNil)) (dVar 2)))) (dApp 3 (dVar 5)) dNext)))
    (dFrz 3 (dRet (dVar 3)))))
theorem lcmL_one {n : Int} (h : 0 < n) : lcmL [n] = n := by
  show lc 1 n = n
  unfold lc g0
  rw [Int.gcd_one_left]
  simp
theorem ixD {ns : List Int} {i : Int} {n : Int} {k : D → Prop} (h : L2.atI ns i = some n) (hk : k (.int n)) : fIx (.lst (ns.map .int)) (.int i) k := by
  refine ⟨.int n, ?_, hk⟩
  unfold L2.atI at h ⊢
  rw [List.length_map]
  cases c : ixN ns.length i with
  | none => rw [c] at h; cases h
  | some j =>
    rw [c] at h
    show (ns.map D.int)[j]? = _
    have h : ns[j]? = some n := h
    rw [List.getElem?_map, h]; rfl
theorem dct_at {M : Mm} {c : Addr} {kvs : List (D × D)} {f : Addr → List (D × D) → Prop} (hM : M c = some (.dct kvs)) (h : f c kvs) : asDct (.raw (.ref c)) M f := by
  show (match M c with | some (.dct kvs) => f c kvs | _ => False)
  rw [hM]; exact h
end Px
set_option Elab.async false
set_option linter.all false
set_option maxRecDepth 100000
namespace Px
open PySem PySem.Spec PyProof.Rows L2
theorem rngD_at {lo : Int} {n i : Nat} {d : D} (h : (rngD lo n)[i]? = some d) : i < n ∧ d = .int (lo + i) := by
  have hi := (List.getElem?_eq_some_iff.mp h).1
  unfold rngD at h hi
  rw [List.length_map, List.length_range] at hi
  rw [List.getElem?_map, List.getElem?_range hi] at h
  cases h
  exact ⟨hi, rfl⟩
end Px
set_option Elab.async false
set_option linter.all false
set_option maxRecDepth 100000
namespace Px
open PySem PySem.Spec PyProof.Rows L2
def pcD (p : Int × Int) : D := .tup [.int (p.1 / 2), .bl (decide (p.1 % 2 = 0)), .int ((p.2 + 1) / 2), .bl (decide (p.2 % 2 = 0))]
theorem rngD_len {lo : Int} {n : Nat} : (rngD lo n).length = n := by unfold rngD; rw [List.length_map, List.length_range]
theorem p200 : (10 : Int) ^ 40 < 2 ^ 200 := by decide
theorem mul_small {i j : Int} (h0 : -1000000000 ≤ i) (h1 : i ≤ 1000000000) (h2 : -(10 ^ 40) ≤ j) (h3 : j ≤ 10 ^ 40) : CMulX i j :=
  have z := p200
  (SzB.of (n := 40) (i := i) (by omega) (by omega)).mulX (SzB.of (n := 200) (i := j) (by omega) (by omega)) (by decide)
end Px
set_option Elab.async false
set_option linter.all false
set_option maxRecDepth 100000
namespace Px
open PySem PySem.Spec PyProof.Rows L2
section
variable {X : Cx} {W : WX} {pb : PTE}
end
end Px
set_option Elab.async false
set_option linter.all false
set_option maxRecDepth 100000
namespace Px
open PySem PySem.Spec PyProof.Rows L2
def pcsD (sp : List (Int × Int)) : List D := sp.map pcD
end Px
set_option Elab.async false
set_option linter.all false
set_option maxRecDepth 100000
namespace Px
open PySem PySem.Spec PyProof.Rows L2
theorem enum_range {k : Nat} {d : D} {i : Nat} (h : (rngD 0 k)[i]? = some d) : i < k ∧ d = .int (i : Nat) := by
  obtain ⟨a, b⟩ := rngD_at h
  exact ⟨a, by rw [b, Int.zero_add]⟩
theorem compR_ong {α : Type} {gd : PTG} {tt : PTT} {te : PTE} {ρ : Rho} {M : Mm} {q : List D → Mm → Prop} (c : α → D) (fm : α → Option D) : ∀ (xs : List α) (acc : List D),
    (∀ x ∈ xs, ∀ (kt : D → Mm → Prop) (kf : Mm → Prop), (match fm x with | some y => kt y M | none => kf M) → gd (c x) ρ fun ρ' => tt w0 ρ' M fun b M1 => if b = true then te w0 ρ' M1 kt else kf M1) →
    acc.length + xs.length ≤ 1000000 → q (acc ++ xs.filterMap fm) M → compR gd tt te ρ (xs.map c) acc M q
  | [], acc, _, _, h => by
    have h : q (acc ++ []) M := h
    rw [List.append_nil] at h
    exact h
  | x :: r, acc, hb, hl, h => by
    have hl : acc.length + (r.length + 1) ≤ 1000000 := hl
    refine hb x List.mem_cons_self _ _ ?_
    rw [List.filterMap_cons] at h
    cases e : fm x with
    | some y =>
      rw [e] at h
      refine ⟨by omega, compR_ong c fm r (acc ++ [y]) (fun d' h' => hb d' (List.mem_cons_of_mem _ h')) (by rw [List.length_append, List.length_singleton]; omega) ?_⟩
      rw [List.append_assoc]
      exact h
    | none =>
      rw [e] at h
      exact compR_ong c fm r acc (fun d' h' => hb d' (List.mem_cons_of_mem _ h')) (by omega) h
theorem compR_on {α : Type} {gd : PTG} {tt : PTT} {te : PTE} {ρ : Rho} {M : Mm} {q : List D → Mm → Prop} (c f : α → D) (xs : List α)
    (hb : ∀ x ∈ xs, ∀ (kt : D → Mm → Prop) (kf : Mm → Prop), kt (f x) M → gd (c x) ρ fun ρ' => tt w0 ρ' M fun b M1 => if b = true then te w0 ρ' M1 kt else kf M1) (hl : xs.length ≤ 1000000)
    (h : q (xs.map f) M) : compR gd tt te ρ (xs.map c) [] M q := by
  refine compR_ong c (fun x => some (f x)) xs [] (fun x hx kt kf k => hb x hx kt kf k) (by simpa using hl) ?_
  rw [List.nil_append, show xs.filterMap (fun d => some (f d)) = xs.map f by rw [← List.filterMap_eq_map]; rfl]
  exact h
theorem compR_sel {α : Type} {gd : PTG} {tt : PTT} {te : PTE} {ρ : Rho} {M : Mm} {q : List D → Mm → Prop} (c f : α → D) (p : α → Bool) (xs : List α)
    (hb : ∀ x ∈ xs, ∀ (kt : D → Mm → Prop) (kf : Mm → Prop), (if p x = true then kt (f x) M else kf M) → gd (c x) ρ fun ρ' => tt w0 ρ' M fun b M1 => if b = true then te w0 ρ' M1 kt else kf M1) (hl : xs.length ≤ 1000000)
    (h : q ((xs.filter p).map f) M) : compR gd tt te ρ (xs.map c) [] M q := by
  refine compR_ong c (fun x => if p x = true then some (f x) else none) xs [] (fun x hx kt kf k => hb x hx kt kf ?_) (by simpa using hl) ?_
  · by_cases c : p x = true
    · rw [if_pos c] at k ⊢; exact k
    · rw [if_neg c] at k ⊢; exact k
  · have e : xs.filterMap (fun x => if p x = true then some (f x) else none) = (xs.filter p).map f := by
      clear h hl hb
      induction xs with
      | nil => rfl
      | cons d r ih => rw [List.filterMap_cons, List.filter_cons, ih]; by_cases c : p d = true <;> simp [c]
    rw [List.nil_append, e]
    exact h
end Px
set_option Elab.async false
set_option linter.all false
set_option maxRecDepth 100000
namespace Px
open PySem PySem.Spec PyProof.Rows L2
def AllPri (n : Int) (ps : List Int) : Prop := (∀ q, Pri q → q ∣ n → q ∈ ps) ∧ ∀ p ∈ ps, 2 ≤ p ∧ p ≤ n
structure PrI (n left p : Int) (ps : List Int) : Prop where
  l0 : 1 ≤ left
  ln : left ∣ n
  p0 : 2 ≤ p
  all : ∀ q, Pri q → q ∣ n → q ∈ ps ∨ q ∣ left
  least : ∀ q, Pri q → q ∣ left → p ≤ q
  two : ∀ x ∈ ps, 2 ≤ x ∧ x ≤ n
  len : (ps.length : Int) ≤ p - 2
theorem PrI.start {n : Int} (h : 1 ≤ n) : PrI n n 2 [] := ⟨h, Int.dvd_refl _, by omega, fun q _ h => .inr h, fun q h _ => h.1, fun x h => (by cases h), by decide⟩
theorem PrI.fin {n left p : Int} {ps : List Int} (h : PrI n left p ps) (c : ¬ p ≤ left) : AllPri n ps := ⟨fun q hq hd => by
  rcases h.all q hq hd with h1 | h1
  · exact h1
  · have := Int.le_of_dvd (by have := h.l0; omega) h1
    have := h.least q hq h1
    omega, h.two⟩
end Px
set_option Elab.async false
set_option linter.all false
set_option maxRecDepth 100000
namespace Px
open PySem PySem.Spec PyProof.Rows L2
end Px
set_option Elab.async false
set_option linter.all false
set_option maxRecDepth 100000
namespace Px
open PySem PySem.Spec PyProof.Rows L2
theorem updM_upd {M : Mm} {a : Addr} {x y : Mo} : updM (updM M a x) a y = updM M a y := funext fun b => by
  unfold updM
  by_cases c : b = a
  · rw [if_pos c, if_pos c]
  · rw [if_neg c, if_neg c, if_neg c]
theorem delM_upd {M : Mm} {a : Addr} {x : Mo} (h : M a = none) : delM (updM M a x) a = M := funext fun b => by
  unfold delM updM
  by_cases c : b = a
  · rw [if_pos c, c, h]
  · rw [if_neg c, if_neg c]
noncomputable def patF (f : Int → Bool) : List (Str × D) := [(("p_half" : Str), .int (lh f)), (("p_pieces" : Str), .tup (pcsD (runs f (2 * lh f + 1).toNat)))]
noncomputable def patD (C : Cl) (f : Int → Bool) : D := .obj C.Pattern ((patF f).map (·.1)) ((patF f).map (·.2))
theorem btw_is {d : D} {lo hi : Int} (h : btwD d lo hi = true) : ∃ i, d = .int i ∧ lo ≤ i ∧ i ≤ hi := by
  cases d with
  | int i =>
    have h : (decide (lo ≤ i) && decide (i ≤ hi)) = true := h
    simp only [Bool.and_eq_true, decide_eq_true_eq] at h
    exact ⟨i, rfl, h⟩
  | _ => cases h
end Px
set_option Elab.async false
set_option linter.all false
set_option maxRecDepth 100000
namespace Px
open PySem PySem.Spec PyProof.Rows L2
def halfOf : D → Option Int
  | .tup (.str s :: .int h :: _) => if s = "look" then some h else none
  | _ => none
def asc (a : List Int) : Prop := a.Pairwise (· < ·)
theorem asc_uniq : ∀ {a b : List Int}, asc a → asc b → (∀ k, k ∈ a ↔ k ∈ b) → a = b
  | [], [], _, _, _ => rfl
  | [], y :: s, _, _, h => absurd ((h y).mpr List.mem_cons_self) List.not_mem_nil
  | x :: r, [], _, _, h => absurd ((h x).mp List.mem_cons_self) List.not_mem_nil
  | x :: r, y :: s, ha, hb, h => by
    obtain ⟨a1, a2⟩ := List.pairwise_cons.mp ha
    obtain ⟨b1, b2⟩ := List.pairwise_cons.mp hb
    have e : x = y := by
      rcases List.mem_cons.mp ((h x).mp List.mem_cons_self) with e | m1
      · exact e
      · rcases List.mem_cons.mp ((h y).mpr List.mem_cons_self) with e | m2
        · exact e.symm
        · have := b1 x m1; have := a1 y m2; omega
    subst e
    rw [asc_uniq a2 b2 fun k => ⟨fun hk => ?_, fun hk => ?_⟩]
    · rcases List.mem_cons.mp ((h k).mp (List.mem_cons_of_mem _ hk)) with e | m
      · have := a1 k hk; omega
      · exact m
    · rcases List.mem_cons.mp ((h k).mpr (List.mem_cons_of_mem _ hk)) with e | m
      · have := b1 k hk; omega
      · exact m
def ascL (ns : List Int) : List Int := ((List.range 1001).map fun i : Nat => (i : Int)).filter fun k => decide (k ∈ ns)
theorem ascL_asc (ns : List Int) : asc (ascL ns) := by
  refine List.Pairwise.filter _ ?_
  rw [List.pairwise_map]
  exact List.Pairwise.imp (fun h => by omega) List.pairwise_lt_range
theorem ascL_mem {ns : List Int} (h : ∀ k ∈ ns, 0 ≤ k ∧ k ≤ 1000) (k : Int) : k ∈ ascL ns ↔ k ∈ ns := by
  unfold ascL
  rw [List.mem_filter, decide_eq_true_eq]
  refine ⟨fun z => z.2, fun z => ⟨List.mem_map.mpr ⟨k.toNat, ?_, ?_⟩, z⟩⟩
  · have := h k z
    rw [List.mem_range]; omega
  · have := h k z
    omega
def hvL (l : List D) : List Int := l.filterMap halfOf
def hvs (l : List D) : List Int := ascL (hvL l)
def prgF (l : List D) : List (Str × D) := [(("p_rows" : Str), .tup l), (("p_halves" : Str), .tup ((hvs l).map .int))]
def prgD (C : Cl) (l : List D) : D := .obj C.Program ((prgF l).map (·.1)) ((prgF l).map (·.2))
def fstBad (many : Int) : Nat → List D → Option Nat
  | _, [] => none
  | i, d :: r => if i = 20 ∨ isRowD d many = false then some i else fstBad many (i + 1) r
def wrRows (d : D) : Option Nat := match d with
  | .tup [] => some 0
  | .tup l => fstBad l.length 0 l
  | _ => some 0
def GdA (d : D) : Prop := ∃ L B n, Gd L B n d ∧ L ≤ 100000
theorem GdA.plain {d : D} (h : GdA d) : Px.plain d = true := by obtain ⟨L, B, n, h, _⟩ := h; exact h.plain
theorem GdA.tup {l : List D} (h : GdA (.tup l)) : l.length ≤ 100000 ∧ ∀ x ∈ l, GdA x := by
  obtain ⟨L, B, n, h, hL⟩ := h
  obtain ⟨m, _, h1, h2⟩ := h.tup
  exact ⟨by omega, fun x hx => ⟨L, B, m, h2 x hx, hL⟩⟩
theorem GdA.lst {l : List D} (h : GdA (.lst l)) : l.length ≤ 100000 ∧ ∀ x ∈ l, GdA x := by
  obtain ⟨L, B, n, h, hL⟩ := h
  obtain ⟨m, _, h1, h2⟩ := h.lst
  exact ⟨by omega, fun x hx => ⟨L, B, m, h2 x hx, hL⟩⟩
theorem fstBad_lt {many : Int} : ∀ {r : List D} {i : Nat}, i ≤ 20 → fstBad many i r = none → i + r.length ≤ 20
  | [], i, h, _ => by simpa using h
  | d :: r, i, h, e => by
    simp only [fstBad] at e
    split at e
    · cases e
    · rename_i c
      have := fstBad_lt (r := r) (i := i + 1) (by omega) e
      rw [List.length_cons]; omega
theorem fstBad_ok {many : Int} : ∀ {r : List D} {i : Nat}, fstBad many i r = none → ∀ d ∈ r, isRowD d many = true
  | [], i, _, d, hd => absurd hd List.not_mem_nil
  | x :: r, i, e, d, hd => by
    simp only [fstBad] at e
    split at e
    · cases e
    · rename_i c
      rcases List.mem_cons.mp hd with rfl | hd
      · by_cases z : isRowD d many = true
        · exact z
        · exact absurd (.inr (by simpa using z)) c
      · exact fstBad_ok e d hd
structure RowsOk (l : List D) : Prop where
  ne : l ≠ []
  len : l.length ≤ 20
  row : ∀ d ∈ l, isRowD d l.length = true
theorem wrRows_ok {l : List D} (h : wrRows (.tup l) = none) : RowsOk l := by
  cases l with
  | nil => cases h
  | cons d r => exact ⟨List.cons_ne_nil _ _, by have := fstBad_lt (by omega) h; omega, fstBad_ok h⟩
theorem RowsOk.wr {l : List D} (h : RowsOk l) : wrRows (.tup l) = none := by
  have key : ∀ (r : List D) (i : Nat), i + r.length ≤ 20 → (∀ d ∈ r, isRowD d l.length = true) → fstBad l.length i r = none := by
    intro r
    induction r with
    | nil => intro i _ _; rfl
    | cons d r ih =>
      intro i h1 h2
      rw [List.length_cons] at h1
      simp only [fstBad]
      rw [if_neg]
      · exact ih (i + 1) (by omega) fun x hx => h2 x (List.mem_cons_of_mem _ hx)
      · rintro (z | z)
        · omega
        · rw [h2 d List.mem_cons_self] at z; cases z
  have ne := h.ne
  cases l with
  | nil => exact absurd rfl ne
  | cons d r => exact key _ 0 (by have := h.len; omega) h.row
theorem row_shape {d : D} {many : Int} (h : isRowD d many = true) :
    (∃ x, d = .tup [.str "tell", .str x] ∧ isWordD (.str x) = true) ∨ (∃ hf el gl, d = .tup [.str "look", .int hf, .tup el, .tup gl] ∧ (1 ≤ hf ∧ hf ≤ 1000) ∧ areEndsD (.tup el) hf = true ∧ gl.length = 2 * el.length + 1 ∧ ∀ y ∈ gl, btwD y 0 (many - 1) = true) := by
  cases d with
  | tup l =>
    replace h : (isTellD l || isLookD many l) = true := h
    rcases Bool.or_eq_true_iff.mp h with h1 | h1 <;> clear h
    · left
      unfold isTellD at h1
      split at h1
      · rename_i s x
        simp only [Bool.and_eq_true, decide_eq_true_eq] at h1
        obtain ⟨rfl, h1⟩ := h1
        cases x with
        | str x => exact ⟨x, rfl, h1⟩
        | _ => cases h1
      · cases h1
    · right
      unfold isLookD at h1
      split at h1
      · rename_i s hf el gl
        simp only [Bool.and_eq_true, decide_eq_true_eq, List.all_eq_true] at h1
        obtain ⟨rfl, h2, h3, h4, h5⟩ := h1
        have h6 : (decide (1 ≤ hf) && decide (hf ≤ 1000)) = true := h2
        simp only [Bool.and_eq_true, decide_eq_true_eq] at h6
        exact ⟨hf, el, gl, rfl, h6, h3, h4, h5⟩
      · cases h1
  | _ => cases h
theorem hvL_mem {l : List D} (h : ∀ d ∈ l, ∃ many, isRowD d many = true) : ∀ k ∈ hvL l, 0 ≤ k ∧ k ≤ 1000 := by
  intro k hk
  obtain ⟨d, hd, e⟩ := List.mem_filterMap.mp hk
  obtain ⟨many, hr⟩ := h d hd
  rcases row_shape hr with ⟨x, rfl, _⟩ | ⟨hf, el, gl, rfl, h1, _⟩
  · cases e
  · have e : (if ("look" : Str) = "look" then some hf else none) = some k := e
    rw [if_pos rfl] at e
    cases e
    omega
theorem compI_fm {gd : PTG} {tt : PTT} {te : PTE} {ρ : Rho} {M : Mm} {q : List Int → Mm → Prop} (fm : D → Option Int) : ∀ (ds : List D) (acc : List Int),
    (∀ d ∈ ds, ∀ (kt : D → Mm → Prop) (kf : Mm → Prop), (match fm d with | some y => kt (.int y) M | none => kf M) → gd d ρ fun ρ' => tt w0 ρ' M fun b M1 => if b = true then te w0 ρ' M1 kt else kf M1) →
    q (acc ++ ds.filterMap fm) M → compI gd tt te ρ ds acc M q
  | [], acc, _, h => by
    have h : q (acc ++ []) M := h
    rw [List.append_nil] at h
    exact h
  | d :: r, acc, hb, h => by
    refine hb d List.mem_cons_self _ _ ?_
    rw [List.filterMap_cons] at h
    cases e : fm d with
    | some y =>
      rw [e] at h
      refine ⟨y, rfl, compI_fm fm r (acc ++ [y]) (fun d' h' => hb d' (List.mem_cons_of_mem _ h')) ?_⟩
      rw [List.append_assoc]
      exact h
    | none =>
      rw [e] at h
      exact compI_fm fm r acc (fun d' h' => hb d' (List.mem_cons_of_mem _ h')) h
theorem half_step {d : D} {many : Int} (hr : isRowD d many = true) {i : Nat} {ρ : Rho} {M : Mm} (hg : gt (st ρ i (.val d)) i = some (.val d)) {kt : D → Mm → Prop} {kf : Mm → Prop} (h : match halfOf d with | some y => kt (.int y) M | none => kf M) :
    gNm i d ρ fun ρ' => dTst (dOp fEq (dOp fIx (dVar i) (dC (.int 0))) (dC (.str "look"))) w0 ρ' M fun b M1 => if b = true then dOp fIx (dVar i) (dC (.int 1)) w0 ρ' M1 kt else kf M1 := by
  rcases row_shape hr with ⟨x, rfl, _⟩ | ⟨hf, el, gl, rfl, _⟩
  · dsimp only [gNm, dTst, dOp, dVar, dC]
    rw [hg]
    refine ⟨.str "tell", at0, by decide +kernel, ?_⟩
    show if decide (("tell" : Str) = "look") = true then fIx (.tup [.str "tell", .str x]) (.int 1) (fun z => kt z M) else kf M
    refine itF (decide_eq_false (by decide +kernel)) ?_
    exact h
  · have h : match (if ("look" : Str) = "look" then some hf else none) with | some y => kt (.int y) M | none => kf M := h
    rw [if_pos rfl] at h
    dsimp only [gNm, dTst, dOp, dVar, dC]
    rw [hg]
    refine ⟨.str "look", at0, by decide +kernel, ?_⟩
    show if decide (("look" : Str) = "look") = true then fIx (.tup [.str "look", .int hf, .tup el, .tup gl]) (.int 1) (fun z => kt z M) else kf M
    refine itT (decide_eq_true rfl) ?_
    exact ⟨.int hf, at1, h⟩
def sp_Program___init__ (C : Cl) : PSp := fun ds M q e => ar2 ds fun s d => insAt C.Program s M fun a fs => (fs = [] ∧ GdA d) ∧
  match wrRows d with
  | some k => e (.ref C.BadProgram) [(("row" : Str), .int (k : Nat))] M
  | none => ∀ l, d = .tup l → RowsOk l → ∀ M2, M2 = updM M a (.ins C.Program (prgF l)) → q .non M2
def rd_Program___init__ (C : Cl) : PTS := (dSeq (dIfS (dOr (dNot (dTst (dB1 (fIsi "tuple") (dVar 1)))) (dTst (dOp (fEq0 false) (dVar 1) (dTup dNil)))) (dRaiseA (.ref C.BadProgram) "row" (dC (.int 0))) dNext)
    (dSeq (dFor (iEA (dVar 1)) (gTp 2 (gsCons (gNm 2) (gsCons (gNm 3) gsNil))) (dIfS (dOr (dTst (dOp fEq (dVar 2) (dC (.int 20)))) (dNot (dTst (dCall (sp_is_row C) [] (dCons (dVar 3) (dCons (dB1 fLen (dVar 1)) dNil)))))) (dRaiseA (.ref C.BadProgram) "row" (dVar 2)) dNext))
    (dSeq (dFldSet C.Program "p_rows" (dVar 1) (dVar 0))
    (dFldSet C.Program "p_halves" (dB1 fTup (dL (dSortSet [3] (iA (dVar 1)) (gNm 3) (dTst (dOp fEq (dOp fIx (dVar 3) (dC (.int 0))) (dC (.str "look")))) (dOp fIx (dVar 3) (dC (.int 1)))))) (dVar 0)))))
def bd_init45 (C : Cl) : PTS := (dIfS (dOr (dTst (dOp fEq (dVar 2) (dC (.int 20)))) (dNot (dTst (dCall (sp_is_row C) [] (dCons (dVar 3) (dCons (dB1 fLen (dVar 1)) dNil)))))) (dRaiseA (.ref C.BadProgram) "row" (dVar 2)) dNext)
theorem init45_loop (C : Cl) {w : PWi} {P : PEnds} {M : Mm} {l : List D} {x0 : Option Sv} : ∀ (r : List D) (i : Nat) (x2 x3 : Option Sv), (x3 = none ∨ ∃ d, x3 = some (.val d)) → (∀ d ∈ r, GdA d) →
    (fstBad l.length i r = none → ∀ b c, (c = none ∨ ∃ d, c = some (.val d)) → P.nx [x0, some (.val (.tup l)), b, c] M) → (∀ k : Nat, fstBad l.length i r = some k → ∀ ρ, w (.ref C.BadProgram) [(("row" : Str), .int (k : Nat))] ρ M) →
    forR (gTp 2 (gsCons (gNm 2) (gsCons (gNm 3) gsNil))) (bd_init45 C) w (enumD i r) P [x0, some (.val (.tup l)), x2, x3] M
  | [], i, x2, x3, h3, _, h1, _ => h1 rfl _ _ h3
  | d :: r, i, x2, x3, h3, hp, h1, h2 => by
    refine ⟨rfl, rfl, ?_⟩
    show if decide ((i : Int) = 20) = true then _ else _
    have e : fstBad l.length i (d :: r) = if i = 20 ∨ isRowD d l.length = false then some i else fstBad l.length (i + 1) r := rfl
    rw [e] at h1 h2
    by_cases c : i = 20
    · refine itT (decide_eq_true (by omega)) (itT rfl ?_)
      exact h2 i (if_pos (.inl c)) _
    · refine itF (decide_eq_false (by omega)) ?_
      obtain ⟨L, B, n, hg, hL⟩ := hp d List.mem_cons_self
      refine ⟨⟨L, B, n, hg, hL⟩, ?_⟩
      show if (!isRowD d l.length) = true then _ else _
      by_cases c2 : isRowD d l.length = true
      · rw [c2]
        refine itF rfl ?_
        have ne : ¬ (i = 20 ∨ isRowD d l.length = false) := by rw [c2]; simp [c]
        rw [if_neg ne] at h1 h2
        exact init45_loop C r (i + 1) _ _ (.inr ⟨_, rfl⟩) (fun y hy => hp y (List.mem_cons_of_mem _ hy)) h1 h2
      · rw [Bool.not_eq_true] at c2
        rw [c2]
        exact itT rfl (h2 i (if_pos (.inr c2)) _)
theorem okW_of {c : Option Sv} {ρ : Rho} {i : Nat} (hg : gt ρ i = c) (h : c = none ∨ ∃ d, c = some (.val d)) : okW ρ [i] = true := by
  unfold okW
  rw [List.all_cons, hg]
  rcases h with rfl | ⟨d, rfl⟩ <;> rfl
theorem sh_Program___init__ (C : Cl) : Shows (sp_Program___init__ C) 4 (rd_Program___init__ C) := by
  intro ds M q e hh
  obtain ⟨s, d, rfl, hh⟩ := ar2_of hh
  obtain ⟨a, fs, rfl, hM, ⟨rfl, hg⟩, h1⟩ := insAt_of hh
  have hp := hg.plain
  have bad : wrRows d = some 0 → ∃ M2, MLe M2 M ∧ e (.ref C.BadProgram) [(("row" : Str), .int 0)] M2 := fun z => by
    rw [z] at h1
    exact ⟨M, MLe.refl M, h1⟩
  cases d with
  | tup l =>
    obtain ⟨hl, hs⟩ := hg.tup
    cases l with
    | nil => exact ⟨Nat.zero_le _, bad rfl⟩
    | cons d0 r0 =>
      refine ⟨Nat.zero_le _, ?_⟩
      have h1 : match fstBad ((d0 :: r0).length : Nat) 0 (d0 :: r0) with
        | some k => e (.ref C.BadProgram) [(("row" : Str), .int (k : Nat))] M
        | none => ∀ l, D.tup (d0 :: r0) = .tup l → RowsOk l → ∀ M2, M2 = updM M a (.ins C.Program (prgF l)) → q .non M2 := h1
      refine init45_loop C (d0 :: r0) 0 none none (.inl rfl) hs (fun z b c hc => ?_) fun k z ρ => ?_
      · rw [z] at h1
        have ok := wrRows_ok (l := d0 :: r0) z
        have hq := h1 _ rfl ok _ rfl
        generalize d0 :: r0 = l at *
        refine ⟨[], hM, by show 0 < 1000; decide, ?_⟩
        refine ⟨okW_of rfl hc, by have := ok.len; omega, ?_⟩
        refine compI_fm halfOf l [] (fun y hy kt kf hk => half_step (ok.row y hy) (i := 3) rfl hk) ?_
        intro ms m1 m2 m3
        have em : ms = hvs l := asc_uniq m1 (ascL_asc _) fun k => by
          rw [m2]
          show k ∈ hvL l ↔ k ∈ ascL (hvL l)
          rw [ascL_mem (hvL_mem fun d hd => ⟨_, ok.row d hd⟩)]
        subst em
        refine ⟨[(("p_rows" : Str), .tup l)], updM_same, by show 1 < 1000; decide, ?_⟩
        rw [updM_upd]
        exact ⟨_, MLe.refl _, hq⟩
      · rw [z] at h1
        exact ⟨M, MLe.refl M, h1⟩
  | _ => first | exact bad rfl | exact absurd hp (by simp [plain, tyD])
theorem run_prg {C : Cl} {l : List D} {M : Mm} {q : PQ} {e : PX} (h : RowsOk l) (hg : GdA (.tup l)) (hq : q (prgD C l) M) :
    ∀ a, M a = none → sp_Program___init__ C [.raw (.ref a), .tup l] (updM M a (.ins C.Program [])) (fun d M2 => d = .non ∧ ∃ fs, M2 a = some (.ins C.Program fs) ∧ q (.obj C.Program (fs.map (·.1)) (fs.map (·.2))) (delM M2 a)) e := by
  intro a ha
  refine ⟨[], updM_same, ⟨rfl, hg⟩, ?_⟩
  rw [h.wr]
  intro l' e' ok M2 hM2
  cases e'
  subst hM2
  refine ⟨rfl, _, updM_same, ?_⟩
  rw [updM_upd, delM_upd ha]
  exact hq
end Px
set_option Elab.async false
set_option linter.all false
set_option maxRecDepth 100000
namespace Px
open PySem PySem.Spec PyProof.Rows L2
mutual
theorem eqv_refl : ∀ d : D, PyData.eqv (toPy d) (toPy d) = true
  | .non => rfl
  | .bl b => by cases b <;> rfl
  | .int i => decide_eq_true (rfl : i = i)
  | .str s => decide_eq_true (rfl : s = s)
  | .tup l => eqvL_refl l
  | .lst l => eqvL_refl l
  | .dic _ _ => rfl
  | .obj _ _ _ => rfl
  | .raw _ => rfl
  | .scr _ => rfl
  | .clo _ _ _ _ _ => rfl
  | .fnc _ _ _ _ => rfl
  | .exv _ _ _ _ _ => rfl
theorem eqvL_refl : ∀ l : List D, PyData.eqvAll (toPyL l) (toPyL l) = true
  | [] => rfl
  | d :: r => by
    show (PyData.eqv (toPy d) (toPy d) && PyData.eqvAll (toPyL r) (toPyL r)) = true
    rw [eqv_refl d, eqvL_refl r]; rfl
end
theorem eqD_refl (d : D) : eqD d d = true := eqv_refl d
theorem int_of_btw {l : List D} {lo hi : Int} (h : ∀ d ∈ l, btwD d lo hi = true) : ∃ ns : List Int, l = ns.map .int ∧ ∀ n ∈ ns, lo ≤ n ∧ n ≤ hi := by
  induction l with
  | nil => exact ⟨[], rfl, fun n hn => absurd hn List.not_mem_nil⟩
  | cons d r ih =>
    obtain ⟨ns, rfl, h2⟩ := ih fun x hx => h x (List.mem_cons_of_mem _ hx)
    obtain ⟨i, rfl, h0, h1⟩ := btw_is (h d List.mem_cons_self)
    exact ⟨i :: ns, rfl, fun n hn => by
      rcases List.mem_cons.mp hn with rfl | hn
      · exact ⟨h0, h1⟩
      · exact h2 n hn⟩
theorem ascD_asc : ∀ (ns : List Int) (last h : Int), ascD last h (ns.map .int) = true ↔ (asc ns ∧ ∀ n ∈ ns, last + 1 ≤ n ∧ n ≤ h)
  | [], last, h => ⟨fun _ => ⟨List.Pairwise.nil, fun n hn => absurd hn List.not_mem_nil⟩, fun _ => rfl⟩
  | n :: r, last, h => by
    show ((decide (last + 1 ≤ n) && decide (n ≤ h)) && ascD n h (r.map .int)) = true ↔ _
    rw [Bool.and_eq_true, Bool.and_eq_true, decide_eq_true_eq, decide_eq_true_eq, ascD_asc r n h]
    constructor
    · rintro ⟨⟨h1, h2⟩, h3, h4⟩
      refine ⟨List.pairwise_cons.mpr ⟨fun m hm => by have := h4 m hm; omega, h3⟩, fun m hm => ?_⟩
      rcases List.mem_cons.mp hm with rfl | hm
      · exact ⟨h1, h2⟩
      · have := h4 m hm; omega
    · rintro ⟨h1, h2⟩
      obtain ⟨h3, h4⟩ := List.pairwise_cons.mp h1
      exact ⟨h2 n List.mem_cons_self, h4, fun m hm => ⟨by have := h3 m hm; omega, (h2 m (List.mem_cons_of_mem _ hm)).2⟩⟩
theorem ends_ints {el : List D} {h : Int} (he : areEndsD (.tup el) h = true) : ∃ ns : List Int, el = ns.map .int ∧ asc ns ∧ (∀ n ∈ ns, 0 ≤ n ∧ n ≤ h) ∧ ns.length ≤ 12 := by
  have he' : (decide (el.length ≤ 12) && ascD (-1) h el) = true := he
  rw [Bool.and_eq_true, decide_eq_true_eq] at he'
  obtain ⟨h12, ha⟩ := he'
  have key : ∀ (l : List D) (last : Int), ascD last h l = true → ∀ d ∈ l, ∃ i, d = .int i := by
    intro l
    induction l with
    | nil => intro _ _ d hd; exact absurd hd List.not_mem_nil
    | cons x r ih =>
      intro last hx d hd
      simp only [ascD, Bool.and_eq_true] at hx
      obtain ⟨i, rfl, _⟩ := btw_is hx.1
      rcases List.mem_cons.mp hd with rfl | hd
      · exact ⟨i, rfl⟩
      · exact ih i hx.2 d hd
  have : ∃ ns : List Int, el = ns.map .int := by
    clear he h12
    have k2 := key el (-1) ha
    clear ha
    induction el with
    | nil => exact ⟨[], rfl⟩
    | cons x r ih =>
      obtain ⟨i, rfl⟩ := k2 x List.mem_cons_self
      obtain ⟨ns, rfl⟩ := ih fun d hd => k2 d (List.mem_cons_of_mem _ hd)
      exact ⟨i :: ns, rfl⟩
  obtain ⟨ns, rfl⟩ := this
  obtain ⟨a1, a2⟩ := (ascD_asc ns (-1) h).mp ha
  rw [List.length_map] at h12
  exact ⟨ns, rfl, a1, fun n hn => by have := a2 n hn; omega, h12⟩
end Px
set_option Elab.async false
set_option linter.all false
set_option maxRecDepth 100000
namespace Px
open PySem PySem.Spec PyProof.Rows L2
structure ZG (xs ys : Array Value) (lo : Addr) (h : Heap) (as : List Addr) : Prop where
  rise : as.Pairwise (· < ·)
  above : ∀ a ∈ as, lo < a
  pairs : ∀ (j : Nat) (a : Addr), as[j]? = some a → ∃ x y, xs[j]? = some x ∧ ys[j]? = some y ∧ h.get? a = some { cls := .type "tuple", data := .seq #[x, y] }
theorem ZG.there {xs ys : Array Value} {lo : Addr} {h : Heap} {as : List Addr} (g : ZG xs ys lo h as) {a : Addr} (ha : a ∈ as) : a < h.objs.size := by
  obtain ⟨j, hj⟩ := List.mem_iff_getElem?.mp ha
  obtain ⟨_, _, _, _, e⟩ := g.pairs j a hj
  exact Heap.lt_size e
structure ZSt (z TI TO i1 i2 l1 l2 S : Addr) (xs ys : Array Value) (i : Nat) (h : Heap) : Prop where
  ti : IsPair h TI (.ref i1) (.ref i2)
  h1 : h.IsListIter i1 l1 i
  h2 : h.IsListIter i2 l2 i
  hl1 : h.IsList l1 xs
  hl2 : h.IsList l2 ys
  hz : (IsZip h z TI TO .none ∧ ∃ a b, IsPair h TO a b) ∨ ∃ T f oT, IsZipHeld h z TI TO T f ∧ h.get? T = some oT ∧ T ≠ z ∧ T ≠ i1 ∧ T ≠ i2 ∧ T ≠ S
structure ZOff (z TI TO i1 i2 l1 l2 S : Addr) : Prop where
  z : S ≠ z
  TI : S ≠ TI
  TO : S ≠ TO
  i1 : S ≠ i1
  i2 : S ≠ i2
  l1 : S ≠ l1
  l2 : S ≠ l2
theorem ZSt.keep {z TI TO i1 i2 l1 l2 S : Addr} {xs ys : Array Value} {i : Nat} {h h' : Heap} (st : ZSt z TI TO i1 i2 l1 l2 S xs ys i h) (f : ZOff z TI TO i1 i2 l1 l2 S) (k : ∀ b o, b ≠ S → h.get? b = some o → h'.get? b = some o) : ZSt z TI TO i1 i2 l1 l2 S xs ys i h' where
  ti := k _ _ f.TI.symm st.ti
  h1 := st.h1.at fun o e => k _ o f.i1.symm e
  h2 := st.h2.at fun o e => k _ o f.i2.symm e
  hl1 := st.hl1.at fun o e => k _ o f.l1.symm e
  hl2 := st.hl2.at fun o e => k _ o f.l2.symm e
  hz := by
    rcases st.hz with ⟨hz, a, b, hTO⟩ | ⟨T, g, oT, hz, hT, r1, r2, r3, r4⟩
    · exact .inl ⟨k _ _ f.z.symm hz, a, b, k _ _ f.TO.symm hTO⟩
    · exact .inr ⟨T, g, oT, k _ _ f.z.symm hz, k _ _ r4 hT, r1, r2, r3, r4⟩
section
variable {prog : Program} {w : World} {A : Around} {E : Value → Shared → Prop} {s : Shared} {z TI TO i1 i2 l1 l2 S : Addr} {xs ys : Array Value} {i n : Nat}
end
section
variable {prog : Program} {w : World} {A : Around} {E : Value → Shared → Prop} {s : Shared} {z TI TO i1 i2 l1 l2 S : Addr} {xs ys : Array Value} {n : Nat}
theorem ZSt.typeIs {i : Nat} {h : Heap} (st : ZSt z TI TO i1 i2 l1 l2 S xs ys i h) : ∃ o, h.get? z = some o ∧ o.cls = .type "zip" := by
  rcases st.hz with ⟨hz, _⟩ | ⟨T, g, oT, hz, _⟩
  · exact ⟨_, hz, rfl⟩
  · exact ⟨_, hz, rfl⟩
end
section
variable {X : Cx} {W : WX} {a b : Expr} {pa pb : PTE} {p p2 pos pos2 : Pos}
end
end Px
set_option Elab.async false
set_option linter.all false
set_option maxRecDepth 100000
namespace Px
open PySem PySem.Spec PyProof.Rows L2
def IsPat (C : Cl) (d : D) (f : Int → Bool) : Prop := d = patD C f ∧ (∃ h, Per h f) ∧ lh f ≤ 5040
theorem IsPat.per {C : Cl} {d : D} {f : Int → Bool} (h : IsPat C d f) : Per (lh f) f := let ⟨_, ⟨_, p⟩, _⟩ := h; lh_per p
theorem IsPat.pos {C : Cl} {d : D} {f : Int → Bool} (h : IsPat C d f) : 0 < lh f := h.per.1
end Px
set_option Elab.async false
set_option linter.all false
set_option maxRecDepth 100000
namespace Px
open PySem PySem.Spec PyProof.Rows L2
end Px
set_option Elab.async false
set_option linter.all false
set_option maxRecDepth 100000
namespace Px
open PySem PySem.Spec PyProof.Rows L2
theorem Per.op {d : Int} {f g : Int → Bool} (hf : Per d f) (hg : Per d g) (fn : Bool → Bool → Bool) : Per d fun z => fn (f z) (g z) :=
  ⟨hf.1, fun z => by show fn _ _ = fn _ _; rw [hf.2.1, hg.2.1], fun z => by show fn _ _ = fn _ _; rw [hf.2.2, hg.2.2]⟩
end Px
set_option Elab.async false
set_option linter.all false
set_option maxRecDepth 100000
namespace Px
open PySem PySem.Spec PyProof.Rows L2
section
variable {X : Cx} {W : WX} {tg a b c : Expr} {rest : List Expr} {pa pb pc : PTE} {pos p : Pos}
end
end Px
set_option Elab.async false
set_option linter.all false
set_option maxRecDepth 100000
namespace Px
open PySem PySem.Spec PyProof.Rows L2
end Px
set_option Elab.async false
set_option linter.all false
set_option maxRecDepth 100000
namespace Px
open PySem PySem.Spec PyProof.Rows L2
theorem compR_nd {gd : PTG} {tt : PTT} {te : PTE} {ρ : Rho} {M : Mm} {q : List D → Mm → Prop} (G : D → Prop) : ∀ (ds acc : List D),
    (∀ d ∈ ds, ∀ (kt : D → Mm → Prop) (kf : Mm → Prop), (∀ y, G y → kt y M) → gd d ρ fun ρ' => tt w0 ρ' M fun b M1 => if b = true then te w0 ρ' M1 kt else kf M1) →
    acc.length + ds.length ≤ 1000000 → (∀ l : List D, l.length = ds.length → (∀ y ∈ l, G y) → q (acc ++ l) M) → compR gd tt te ρ ds acc M q
  | [], acc, _, _, h => by
    have h : q (acc ++ []) M := h [] rfl fun y hy => (by cases hy)
    rw [List.append_nil] at h
    exact h
  | d :: r, acc, hb, hl, h => by
    have hl : acc.length + (r.length + 1) ≤ 1000000 := hl
    refine hb d List.mem_cons_self _ _ fun y hy => ⟨by omega, ?_⟩
    refine compR_nd G r (acc ++ [y]) (fun d' h' => hb d' (List.mem_cons_of_mem _ h')) (by rw [List.length_append, List.length_singleton]; omega) fun l h1 h2 => ?_
    rw [List.append_assoc]
    refine h (y :: l) (by rw [List.length_cons, List.length_cons, h1]) fun z hz => ?_
    rcases List.mem_cons.mp hz with rfl | hz
    · exact hy
    · exact h2 z hz
end Px
set_option Elab.async false
set_option linter.all false
set_option maxRecDepth 100000
namespace Px
open PySem PySem.Spec PyProof.Rows L2
def sp__law_halvesP (C : Cl) : PSp := fun ds M q _ => ar3 ds fun d x y => asDraw d M (asI x fun many => asI y fun most => (1 ≤ many ∧ many ≤ 6 ∧ 1 ≤ most ∧ most ≤ 10 ^ 12) ∧ ∀ hs, HsOk hs → lcmL hs ≤ most → hs.length ≤ many → q (.lst (hs.map .int)) M)
theorem sh__law_halvesP (C : Cl) : Shows (sp__law_halvesP C) 6 (rd__law_halves C) := by
  intro ds M q e h
  obtain ⟨d, x, y, rfl, h⟩ := ar3_of h
  obtain ⟨a, rfl, hm, h⟩ := asDraw_of h
  obtain ⟨many, e1, h⟩ := asI_of h
  obtain ⟨most, e2, ⟨m1, m2, m3, m4⟩, hq⟩ := asI_of h
  subst e1 e2
  refine ⟨hm, fun n n1 n2 => ?_⟩
  refine ⟨by simp, ?_⟩
  obtain ⟨n, hmin, n1, n2, n3⟩ : ∃ n' : Int, (if most < n then most else n) = n' ∧ 1 ≤ n' ∧ n' ≤ 60 ∧ n' ≤ most := ⟨_, rfl, by split <;> omega, by split <;> omega, by split <;> omega⟩
  refine ⟨hm, tk_of (by omega) (by omega), fun k k0 k1 => ⟨by omega, by omega, ?_⟩⟩
  have hlen : (rngD 0 k.toNat).length = k.toNat := by unfold rngD; rw [List.length_map, List.length_range]
  refine forR_ix (fun j ρ M' => M' = M ∧ ∃ (l : List Int) (x4 x5 : Option Sv), ρ = [some (.val (.raw (.ref a))), some (.val (.int many)), some (.val (.int most)), some (.own ((n :: l).map .int)), x4, x5] ∧ l.length ≤ j ∧ lcmL (n :: l) ≤ most ∧ ∀ i ∈ n :: l, 1 ≤ i ∧ i ≤ 1000) _ 0 ?_ ?_ _ _
    ⟨rfl, [], none, none, by rw [hmin]; rfl, Nat.le_refl _, by rw [lcmL_one (by omega)]; omega, fun i hi => by rw [List.mem_singleton.mp hi]; omega⟩
  · rintro i d hd F hF ρ M' ⟨rfl, l, x4, x5, rfl, hl, hL, hp⟩
    have hi : i < (rngD 0 k.toNat).length := (List.getElem?_eq_some_iff.mp hd).1
    rw [hlen] at hi
    rw [Nat.zero_add] at hl
    have hlm : (n :: l).length ≤ 5 := by rw [List.length_cons]; omega
    obtain ⟨z, hz, hzm⟩ : ∃ z, L2.atI (n :: l) (-1) = some z ∧ z ∈ n :: l := by
      refine ⟨(n :: l).getLast (by simp), ?_, List.getLast_mem _⟩
      have := atI_last (n :: l).dropLast ((n :: l).getLast (by simp))
      rw [List.dropLast_concat_getLast] at this
      exact this
    have hzp := hp z hzm
    haveI : SzB 10 n := SzB.of (by omega) (by omega)
    refine ⟨hm, fun u u1 u2 => ?_⟩
    refine ixD (i := 0) (n := n) (show L2.atI (n :: l) 0 = some n from atI_nat (j := 0) rfl) ⟨(SzB.mulX inferInstance inferInstance), ?_⟩
    refine ixD (i := -1) (n := z) hz ⟨by simp, hm, ⟨by simp, by simp⟩, fun y hy => ?_⟩
    obtain ⟨v, rfl, v1, v2⟩ : ∃ v : Int, y = .int v ∧ 1 ≤ v ∧ v ≤ 2000 := by
      simp only [List.mem_cons, List.not_mem_nil, or_false] at hy
      rcases hy with rfl | rfl | rfl
      · exact ⟨_, rfl, by omega, by omega⟩
      · exact ⟨_, rfl, by omega, by omega⟩
      · exact ⟨_, rfl, by omega, by omega⟩
    dsimp only [dSeq, dInN, dPutN, dGetN, dNewN, dCallL, dCallLK, dRetL, dRetOwn, dNext, dSet, dSetO, dRet, dRetN, dDrop, dIfS, dFor, dPar, dPar3, dParL2, dParL3, dAsg, dFrz, dIf, dTst, dOp, dVar, dOwn, dC, dB1, dG1, dL, dLst, dCons, dNil, dTup, dCall, dCallK, dAnd, dOr, dNot, dAndV, dOrV, dNotV, dNeg, dChain, dNever, dNeverS, dRaise, dYes, gNm, gsCons, gsNil, gTp, gt, st, fAdd, fSub, fMul, fDiv, fMod, fPow, fShl, fShr, fCmp, fEq, fNe, fEqS, fNeS, fIs, fIsNot, fLen, fMin, fMax, fMin2, fMax2, fAll, fAny, fAbs, fTup, fRepr, fIx, atD, isB, ls2, ls3, startR, ar1, ar2, ar3, ar4, asI, asT, asL, asDraw, sp_take, sp_pick, sp_begin, List.map, List.append, List.replicate, List.length, List.cons_append, List.nil_append, Nat.sub_self, Nat.reduceSub, Nat.reduceAdd, dApp, isOwn, appR, dSl, dPt, dNo, slR, asIn, List.map_cons, List.map_nil]
    by_cases c1 : v ≤ 1000
    · refine itT (decide_eq_true c1) ⟨by simp, by simp; simp at hlm; omega, ?_⟩
      have hok : SmOk (n :: l ++ [v]) := ⟨by simp; simp at hlm; omega, fun i hi => by
        rcases List.mem_append.mp hi with hi | hi
        · exact hp i hi
        · rw [List.mem_singleton.mp hi]; omega⟩
      refine ⟨n :: l ++ [v], .inl (by rw [List.map_append]; rfl), hok, fun d1 h1 => ?_⟩
      subst h1
      by_cases c2 : lcmL (n :: l ++ [v]) ≤ most
      · refine itT (decide_eq_true c2) ⟨trivial, by rw [List.length_map]; omega, hF _ _ ⟨rfl, l ++ [v], some (.val d), some (.val (.int v)), by rw [show n :: (l ++ [v]) = n :: l ++ [v] from rfl, List.map_append]; rfl, by simp; omega, c2, hok.2⟩⟩
      · exact itF (decide_eq_false c2) (hF _ _ ⟨rfl, l, some (.val d), some (.val (.int v)), rfl, by omega, hL, hp⟩)
    · exact itF (decide_eq_false c1) (hF _ _ ⟨rfl, l, some (.val d), some (.val (.int v)), rfl, by omega, hL, hp⟩)
  · rintro ρ M' ⟨rfl, l, x4, x5, rfl, hl, hL, hp⟩
    rw [hlen] at hl
    exact ⟨M', MLe.refl _, hq (n :: l) ⟨by simp, by simp; omega, hp⟩ hL (by simp; omega)⟩
def alphS : Str := "abcdefghijklmnopqrstuvwxyz"
theorem alph_let : ∀ y ∈ chS alphS, ∃ c : Nat, y = .str ⟨#[c]⟩ ∧ 97 ≤ c ∧ c ≤ 122 := by
  intro y hy
  obtain ⟨c, hc, rfl⟩ := List.mem_map.mp hy
  have : ∀ c ∈ alphS.cps.toList, 97 ≤ c ∧ c ≤ 122 := by decide +kernel
  exact ⟨c, rfl, this c hc⟩
theorem ltr_alph : ∀ c : Nat, 97 ≤ c → c ≤ 122 → ltr (.str ⟨#[c]⟩) = true := by
  have key : ∀ i : Fin 26, ltr (.str ⟨#[97 + i.val]⟩) = true := by decide +kernel
  intro c h0 h1
  have := key ⟨c - 97, by omega⟩
  have e : 97 + (c - 97) = c := by omega
  simpa only [e] using this
def IsW (s : Str) : Prop := 1 ≤ s.cps.size ∧ s.cps.size ≤ 8 ∧ ∀ c ∈ s.cps.toList, 97 ≤ c ∧ c ≤ 122
theorem IsW.word {s : Str} (h : IsW s) : isWordD (.str s) = true := by
  show (decide (1 ≤ s.cps.size) && decide (s.cps.size ≤ 8) && (chS s).all ltr) = true
  rw [decide_eq_true h.1, decide_eq_true h.2.1, Bool.true_and, Bool.true_and, List.all_eq_true]
  intro y hy
  obtain ⟨c, hc, rfl⟩ := List.mem_map.mp hy
  exact ltr_alph c (h.2.2 c hc).1 (h.2.2 c hc).2
theorem IsW.sok {s : Str} (h : IsW s) : SOk s := by
  refine ⟨?_, ?_, ?_⟩
  · simp only [PyData.strOk, Array.all_eq_true]
    intro i hi
    have := h.2.2 (s.cps[i]) (by simp)
    exact decide_eq_true (by omega)
  · simp only [PyData.leavesShort, List.all_eq_true]
    intro c hc
    have := h.2.2 c hc
    exact decide_eq_true (by omega)
  · simp only [PyData.weight]
    have := h.2.1
    omega
theorem join_cps : ∀ ys : List Str, (Txt.join "" ys).cps.toList = (ys.map fun s => s.cps.toList).flatten := by
  have key : ∀ ys : List Str, (Str.join "" ys).cps.toList = (ys.map fun s => s.cps.toList).flatten := by
    intro ys
    induction ys with
    | nil => rfl
    | cons x r ih =>
      cases r with
      | nil => simp [Str.join]
      | cons y r =>
        show ((x ++ "" ++ Str.join "" (y :: r) : Str)).cps.toList = _
        have e : ((x ++ "" ++ Str.join "" (y :: r) : Str)).cps = x.cps ++ (#[] : Array Nat) ++ (Str.join "" (y :: r)).cps := rfl
        rw [e, List.map_cons, List.flatten_cons, ← ih]
        simp
  intro ys
  rw [← key ys]
  show (PySem.Builtin.Str.glued "" ys).cps.toList = _
  rw [StrLaws.glued_eq_join]
end Px
set_option Elab.async false
set_option linter.all false
set_option maxRecDepth 100000
namespace Px
open PySem PySem.Spec PyProof.Rows L2
def sp__law_term (C : Cl) : PSp := fun ds M q _ => ar1 ds fun d => asDraw d M (∀ s, IsW s → q (.str s) M)
def rd__law_term (C : Cl) : PTS := (dSeq (dSet 1 (dC (.str "abcdefghijklmnopqrstuvwxyz")))
    (dSeq (dSet 2 (dJoin (dC (.str "")) (dL (dComp [3] (iR1 (dOp fAdd (dC (.int 1)) (dCall sp_take [] (dCons (dVar 0) (dCons (dC (.int 8)) dNil))))) (gNm 3) dYes (dCall sp_pickX [] (dCons (dVar 0) (dCons (dVar 1) dNil)))))))
    (dRet (dCall sp_pickX [] (dCons (dVar 0) (dCons (dL (dLst (dCons (dC (.str "a")) (dCons (dC (.str "b")) (dCons (dC (.str "slow")) (dCons (dC (.str "tell")) (dCons (dC (.str "look")) (dCons (dVar 2) dNil)))))))) dNil))))))
theorem isW_lit : ∀ s ∈ (["a", "b", "slow", "tell", "look"] : List Str), IsW s := by unfold IsW; decide +kernel
theorem sh__law_term (C : Cl) : Shows (sp__law_term C) 4 (rd__law_term C) := by
  intro ds M q e h
  obtain ⟨d, rfl, h⟩ := ar1_of h
  obtain ⟨a, rfl, hm, hq⟩ := asDraw_of h
  refine ⟨"", rfl, rfl, hm, tk_of (by decide) (by decide), fun k k0 k1 => ⟨by omega, by omega, ?_⟩⟩
  have l26 : (pkX (.str "abcdefghijklmnopqrstuvwxyz")).length = 26 := by decide +kernel
  refine compR_nd (fun y => ∃ c : Nat, y = .str ⟨#[c]⟩ ∧ 97 ≤ c ∧ c ≤ 122) _ _ (fun d hd kt kf hk => ⟨hm, ⟨by omega, by omega⟩, fun y hy => hk y (alph_let y hy)⟩) (by rw [rngD_len]; simp; omega) fun l hl hG => ?_
  rw [rngD_len] at hl
  obtain ⟨ys, rfl, hy⟩ : ∃ ys : List Str, l = ys.map .str ∧ ∀ s ∈ ys, ∃ c : Nat, s = ⟨#[c]⟩ ∧ 97 ≤ c ∧ c ≤ 122 := by
    clear hl
    induction l with
    | nil => exact ⟨[], rfl, fun s hs => absurd hs List.not_mem_nil⟩
    | cons y r ih =>
      obtain ⟨ys, rfl, h2⟩ := ih fun z hz => hG z (List.mem_cons_of_mem _ hz)
      obtain ⟨c, rfl, c0, c1⟩ := hG y List.mem_cons_self
      refine ⟨⟨#[c]⟩ :: ys, rfl, fun s hs => ?_⟩
      rcases List.mem_cons.mp hs with rfl | hs
      · exact ⟨c, rfl, c0, c1⟩
      · exact h2 s hs
  rw [List.length_map] at hl
  have ln : ∀ zs : List Str, (∀ s ∈ zs, ∃ c : Nat, s = ⟨#[c]⟩ ∧ 97 ≤ c ∧ c ≤ 122) → (zs.map (·.length)).sum = zs.length ∧ ((zs.map fun s => s.cps.toList).flatten).length = zs.length ∧ ∀ c ∈ (zs.map fun s => s.cps.toList).flatten, 97 ≤ c ∧ c ≤ 122 := by
    intro zs
    induction zs with
    | nil => intro _; exact ⟨rfl, rfl, fun c hc => absurd hc List.not_mem_nil⟩
    | cons y r ih =>
      intro hz
      obtain ⟨i1, i2, i3⟩ := ih fun z h => hz z (List.mem_cons_of_mem _ h)
      obtain ⟨c, rfl, c0, c1⟩ := hz y List.mem_cons_self
      refine ⟨?_, ?_, ?_⟩
      · rw [List.map_cons, List.sum_cons, i1, List.length_cons]
        show 1 + _ = _; omega
      · rw [List.map_cons, List.flatten_cons, List.length_append, i2]
        show 1 + r.length = r.length + 1; omega
      · intro x hx
        rw [List.map_cons, List.flatten_cons] at hx
        rcases List.mem_append.mp hx with h | h
        · have : x = c := by simpa using h
          omega
        · exact i3 x h
  obtain ⟨l1, l2, l3⟩ := ln ys hy
  have hW : IsW (Txt.join "" ys) := by
    have e := join_cps ys
    have es : (Txt.join "" ys).cps.size = ys.length := by rw [← Array.length_toList, e, l2]
    exact ⟨by omega, by omega, fun c hc => l3 c (by rw [← e]; exact hc)⟩
  refine ⟨ys, rfl, ?_, ?_⟩
  · rw [l1]
    show ys.length + ys.length * 0 ≤ _
    omega
  refine ⟨by show 6 ≤ 1000000; decide, hm, ⟨by show 0 < 6; decide, by show 6 ≤ 100000; decide⟩, fun y hy => ⟨M, MLe.refl M, ?_⟩⟩
  have hy : y ∈ ([.str "a", .str "b", .str "slow", .str "tell", .str "look", .str (Txt.join "" ys)] : List D) := hy
  simp only [List.mem_cons, List.not_mem_nil, or_false] at hy
  rcases hy with rfl | rfl | rfl | rfl | rfl | rfl
  · exact hq _ (isW_lit _ (by simp))
  · exact hq _ (isW_lit _ (by simp))
  · exact hq _ (isW_lit _ (by simp))
  · exact hq _ (isW_lit _ (by simp))
  · exact hq _ (isW_lit _ (by simp))
  · exact hq _ hW
theorem asc_len : ∀ {ms ns : List Int}, asc ms → (∀ k ∈ ms, k ∈ ns) → ms.length ≤ ns.length
  | [], ns, _, _ => Nat.zero_le _
  | x :: r, ns, h, hs => by
    obtain ⟨h1, h2⟩ := List.pairwise_cons.mp h
    have hx := hs x List.mem_cons_self
    have := asc_len (ms := r) (ns := ns.erase x) h2 fun k hk => (List.mem_erase_of_ne (by have := h1 k hk; omega)).mpr (hs k (List.mem_cons_of_mem _ hk))
    rw [List.length_erase_of_mem hx] at this
    have := List.length_pos_of_mem hx
    rw [List.length_cons]; omega
theorem asc_rng (n : Nat) : asc ((List.range n).map fun i : Nat => (0 : Int) + (i : Int)) := by
  unfold asc
  rw [List.pairwise_map]
  exact List.Pairwise.imp (fun h => by omega) List.pairwise_lt_range
def sp__law_ends (C : Cl) : PSp := fun ds M q _ => ar2 ds fun d x => asDraw d M (asI x fun half => (1 ≤ half ∧ half ≤ 1000) ∧ ∀ es : List Int, asc es → (∀ n ∈ es, 0 ≤ n ∧ n ≤ half) → es.length ≤ 12 → q (.tup (es.map .int)) M)
def rd__law_ends (C : Cl) : PTS := (dSeq (dIfS (dTst (dOp fEq (dCall sp_take [] (dCons (dVar 0) (dCons (dC (.int 12)) dNil))) (dC (.int 0)))) (dRet (dB1 fTup (dL (dLRg1 (dOp fAdd (dOp fMin2 (dVar 1) (dC (.int 11))) (dC (.int 1))))))) dNext)
    (dSeq (dSet 2 (dL (dComp [3] (iR1 (dCall sp_take [] (dCons (dVar 0) (dCons (dC (.int 5)) dNil)))) (gNm 3) dYes (dCall sp_pick [] (dCons (dVar 0) (dCons (dL (dLst (dCons (dC (.int 0)) (dCons (dVar 1) (dCons (dCall sp_take [] (dCons (dVar 0) (dCons (dOp fAdd (dVar 1) (dC (.int 1))) dNil))) dNil))))) dNil))))))
    (dRet (dB1 fTup (dL (dSortL (dVar 2)))))))
theorem ints_of {G : Int → Prop} {l : List D} (h : ∀ y ∈ l, ∃ n, y = .int n ∧ G n) : ∃ ns : List Int, l = ns.map .int ∧ ∀ n ∈ ns, G n := by
  induction l with
  | nil => exact ⟨[], rfl, fun s hs => absurd hs List.not_mem_nil⟩
  | cons y r ih =>
    obtain ⟨ys, rfl, h2⟩ := ih fun z hz => h z (List.mem_cons_of_mem _ hz)
    obtain ⟨c, rfl, c0⟩ := h y List.mem_cons_self
    refine ⟨c :: ys, rfl, fun s hs => ?_⟩
    rcases List.mem_cons.mp hs with rfl | hs
    · exact c0
    · exact h2 s hs
theorem sh__law_ends (C : Cl) : Shows (sp__law_ends C) 4 (rd__law_ends C) := by
  intro ds M q e h
  obtain ⟨d, x, rfl, h⟩ := ar2_of h
  obtain ⟨a, rfl, hm, h⟩ := asDraw_of h
  obtain ⟨half, rfl, ⟨h0, h1⟩, hq⟩ := asI_of h
  refine ⟨hm, tk_of (by decide) (by decide), fun k k0 k1 => ⟨rfl, ?_⟩⟩
  show if decide (k = 0) = true then _ else _
  by_cases hk : k = 0
  · refine itT (decide_eq_true hk) ⟨⟨?_, ?_⟩, M, MLe.refl M, ?_⟩
    · show -1000000 ≤ (if (11 : Int) < half then (11 : Int) else half) + 1; split <;> omega
    · show (if (11 : Int) < half then (11 : Int) else half) + 1 ≤ 1000000; split <;> omega
    · show q (.tup (rngD 0 ((if (11 : Int) < half then (11 : Int) else half) + 1).toNat)) M
      rw [rngD_ints]
      refine hq _ (asc_rng _) (fun n hn => ?_) ?_
      · obtain ⟨i, hi, rfl⟩ := List.mem_map.mp hn
        rw [List.mem_range] at hi
        split at hi <;> omega
      · rw [List.length_map, List.length_range]
        split <;> omega
  · refine itF (decide_eq_false hk) ⟨rfl, hm, tk_of (by decide) (by decide), fun t t0 t1 => ⟨by omega, by omega, ?_⟩⟩
    refine compR_nd (fun y => ∃ n : Int, y = .int n ∧ 0 ≤ n ∧ n ≤ half) _ _ (fun d hd kt kf hk => ⟨hm, tk_of (by omega) (by omega), fun u u0 u1 => ⟨by show 3 ≤ 1000000; decide, hm, ⟨by show 0 < 3; decide, by show 3 ≤ 100000; decide⟩, fun y hy => hk y ?_⟩⟩) (by rw [rngD_len]; simp; omega) fun l hl hG => ?_
    · have hy : y ∈ ([.int 0, .int half, .int u] : List D) := hy
      simp only [List.mem_cons, List.not_mem_nil, or_false] at hy
      rcases hy with rfl | rfl | rfl
      · exact ⟨_, rfl, by omega, by omega⟩
      · exact ⟨_, rfl, by omega, by omega⟩
      · exact ⟨_, rfl, by omega, by omega⟩
    · rw [rngD_len] at hl
      obtain ⟨ns, rfl, hn⟩ := ints_of hG
      rw [List.length_map] at hl
      refine ⟨ns, .inl rfl, by omega, fun ms m1 m2 m3 => ⟨M, MLe.refl M, hq ms m1 (fun n h => hn n ((m2 n).mp h)) ?_⟩⟩
      have := asc_len m1 fun k hk => (m2 k).mp hk
      omega
def RwG (d : D) : Prop := Gd 30 1000 2 d ∧ sz d ≤ 700
def sp__law_rows (C : Cl) : PSp := fun ds M q _ => ar2 ds fun d x => asDraw d M (asI x fun most => (1 ≤ most ∧ most ≤ 10 ^ 12) ∧ ∀ l hs, RowsOk l → (∀ d ∈ l, RwG d) → HsOk hs → lcmL hs ≤ most → (∀ k ∈ hvL l, k ∈ hs) → q (.tup l) M)
def rowsIn (C : Cl) : PTS := (dSeq (dSet 10 (dOp fAdd (dOp fAdd (dVar 5) (dC (.int 1))) (dCall sp_take [] (dCons (dVar 0) (dCons (dOp fMax2 (dC (.int 1)) (dOp fSub (dOp fSub (dVar 4) (dVar 5)) (dC (.int 1)))) dNil)))))
    (dApp 8 (dCall sp_pick [] (dCons (dVar 0) (dCons (dL (dLst (dCons (dOp fMin2 (dOp fSub (dVar 4) (dC (.int 1))) (dVar 10)) (dCons (dOp fMin2 (dOp fSub (dVar 4) (dC (.int 1))) (dVar 10)) (dCons (dCall sp_take [] (dCons (dVar 0) (dCons (dVar 4) dNil))) dNil))))) dNil)))))
def rowsLook (C : Cl) : PTS := (dSeq (dSet 6 (dCall sp_pick [] (dCons (dVar 0) (dCons (dVar 2) dNil))))
    (dSeq (dParL2 7 8 (dCall (sp__law_ends C) [] (dCons (dVar 0) (dCons (dVar 6) dNil))))
    (dSeq (dFor (iR1 (dOp fAdd (dOp fMul (dC (.int 2)) (dB1 fLen (dVar 7))) (dC (.int 1)))) (gNm 9) (rowsIn C))
    (dApp 3 (dTup (dCons (dC (.str "look")) (dCons (dVar 6) (dCons (dVar 7) (dCons (dB1 fTup (dOwn 8)) dNil)))))))))
def rowsTell (C : Cl) : PTS := (dApp 3 (dTup (dCons (dC (.str "tell")) (dCons (dCall (sp__law_term C) [] (dCons (dVar 0) dNil)) dNil))))
def rowsBody (C : Cl) : PTS := (dIfS (dOr (dTst (dOp fEq (dCall sp_take [] (dCons (dVar 0) (dCons (dC (.int 3)) dNil))) (dC (.int 0)))) (dAnd (dTst (dOp fEq (dVar 5) (dOp fSub (dVar 4) (dC (.int 1))))) (dTst (dOp fGt (dCall sp_take [] (dCons (dVar 0) (dCons (dC (.int 3)) dNil))) (dC (.int 0)))))) (rowsTell C) (rowsLook C))
def rowsOf (C : Cl) (top : Int) : PTS := (dSeq (dParL2 2 3 (dCall (sp__law_halvesP C) [] (dCons (dVar 0) (dCons (dC (.int 3)) (dCons (dVar 1) dNil)))))
    (dSeq (dSet 4 (dOp fAdd (dC (.int 1)) (dCall sp_take [] (dCons (dVar 0) (dCons (dCall sp_pick [] (dCons (dVar 0) (dCons (dL (dLst (dCons (dC (.int 7)) (dCons (dC (.int 7)) (dCons (dC (.int 7)) (dCons (dC (.int top)) dNil)))))) dNil))) dNil)))))
    (dSeq (dFor (iR1 (dVar 4)) (gNm 5) (rowsBody C))
    (dRet (dB1 fTup (dOwn 3))))))
theorem szL_ints {ns : List Int} {c : Nat} (h : ∀ n ∈ ns, sz (.int n) ≤ c) : szL (ns.map .int) ≤ c * ns.length := by
  induction ns with
  | nil => exact Nat.zero_le _
  | cons n r ih =>
    have h1 := h n List.mem_cons_self
    have h2 := ih fun k hk => h k (List.mem_cons_of_mem _ hk)
    show sz (.int n) + szL (r.map .int) ≤ c * (r.length + 1)
    rw [Nat.mul_succ]; omega
theorem sz_half {i : Int} (h0 : 0 ≤ i) (h1 : i ≤ 1000) : sz (.int i) ≤ 12 := by
  show i.natAbs.log2 + 2 ≤ 12
  by_cases z : i.natAbs = 0
  · rw [z]; decide
  · have := (Nat.log2_lt z).mpr (show i.natAbs < 2 ^ 10 by omega)
    omega
theorem sz_small {i : Int} (h0 : 0 ≤ i) (h1 : i < 32) : sz (.int i) ≤ 6 := by
  show i.natAbs.log2 + 2 ≤ 6
  by_cases z : i.natAbs = 0
  · rw [z]; decide
  · have := (Nat.log2_lt z).mpr (show i.natAbs < 2 ^ 5 by omega)
    omega
theorem gd_ints {ns : List Int} {L B n : Nat} (hl : ns.length ≤ L) (h : ∀ k ∈ ns, k.natAbs ≤ B) : Gd L B (n + 1) (.tup (ns.map .int)) := by
  simp only [Gd]
  refine ⟨by rw [List.length_map]; exact hl, fun x hx => ?_⟩
  obtain ⟨k, hk, rfl⟩ := List.mem_map.mp hx
  simp only [Gd]
  exact h k hk
theorem tell_row {s : Str} (h : IsW s) (many : Int) : isRowD (.tup [.str "tell", .str s]) many = true ∧ RwG (.tup [.str "tell", .str s]) ∧ halfOf (.tup [.str "tell", .str s]) = none := by
  refine ⟨?_, ⟨?_, ?_⟩, rfl⟩
  · show (isTellD _ || _) = true
    have : isTellD [.str "tell", .str s] = true := by
      show (decide (("tell" : Str) = "tell") && isWordD (.str s)) = true
      rw [h.word, decide_eq_true rfl]; rfl
    rw [this]; rfl
  · simp only [Gd]
    refine ⟨by show 2 ≤ 30; decide, fun x hx => ?_⟩
    simp only [List.mem_cons, List.not_mem_nil, or_false] at hx
    rcases hx with rfl | rfl
    · simp only [Gd]; exact (isW_lit "tell" (by simp)).sok
    · simp only [Gd]; exact h.sok
  · have := h.2.1
    have e : sz (.str "tell") = 5 := by decide +kernel
    show (sz (.str "tell") + ((s.cps.size + 1) + 0)) + 1 ≤ 700
    omega
theorem look_row {hf many : Int} {es gs : List Int} (h0 : 1 ≤ hf) (h1 : hf ≤ 1000) (ha : asc es) (he : ∀ n ∈ es, 0 ≤ n ∧ n ≤ hf) (hl : es.length ≤ 12) (hm : many ≤ 20) (hg : ∀ n ∈ gs, 0 ≤ n ∧ n ≤ many - 1) (hn : gs.length = 2 * es.length + 1) :
    isRowD (.tup [.str "look", .int hf, .tup (es.map .int), .tup (gs.map .int)]) many = true ∧ RwG (.tup [.str "look", .int hf, .tup (es.map .int), .tup (gs.map .int)]) ∧ halfOf (.tup [.str "look", .int hf, .tup (es.map .int), .tup (gs.map .int)]) = some hf := by
  refine ⟨?_, ⟨?_, ?_⟩, ?_⟩
  · have e1 : areEndsD (.tup (es.map .int)) hf = true := by
      show (decide ((es.map D.int).length ≤ 12) && _) = true
      rw [List.length_map, decide_eq_true hl, (ascD_asc es (-1) hf).mpr ⟨ha, fun n h => by have := he n h; omega⟩]; rfl
    have e2 : ((gs.map D.int).all fun d => btwD d 0 (many - 1)) = true := by
      rw [List.all_eq_true]
      intro y hy
      obtain ⟨i, hi, rfl⟩ := List.mem_map.mp hy
      show (decide (0 ≤ i) && decide (i ≤ many - 1)) = true
      rw [decide_eq_true (hg i hi).1, decide_eq_true (hg i hi).2]; rfl
    have e3 : btwD (.int hf) 1 1000 = true := by
      show (decide (1 ≤ hf) && decide (hf ≤ 1000)) = true
      rw [decide_eq_true h0, decide_eq_true h1]; rfl
    simp only [isRowD, isLookD, e1, e2, e3, List.length_map, hn]
    simp
  · simp only [Gd]
    refine ⟨by show 4 ≤ 30; decide, fun x hx => ?_⟩
    simp only [List.mem_cons, List.not_mem_nil, or_false] at hx
    rcases hx with rfl | rfl | rfl | rfl
    · simp only [Gd]; exact (isW_lit "look" (by simp)).sok
    · simp only [Gd]; omega
    · exact gd_ints (by omega) fun k hk => by have := he k hk; omega
    · exact gd_ints (by omega) fun k hk => by have := hg k hk; omega
  · have s1 := szL_ints (c := 12) fun n hn => sz_half (he n hn).1 (by have := he n hn; omega)
    have s2 := szL_ints (c := 6) fun n hn => sz_small (hg n hn).1 (by have := hg n hn; omega)
    have s3 := sz_half (show 0 ≤ hf by omega) h1
    have e : sz (.str "look") = 5 := by decide +kernel
    show (sz (.str "look") + (sz (.int hf) + ((szL (es.map .int) + 1) + ((szL (gs.map .int) + 1) + 0)))) + 1 ≤ 700
    omega
  · show (if ("look" : Str) = "look" then some hf else none) = some hf
    rw [if_pos rfl]
structure RInv (hs : List Int) (many : Int) (l : List D) : Prop where
  row : ∀ d ∈ l, isRowD d many = true
  rw : ∀ d ∈ l, RwG d
  hv : ∀ k ∈ hvL l, k ∈ hs
theorem RInv.app {hs : List Int} {many : Int} {l : List D} {d : D} (h : RInv hs many l) (h1 : isRowD d many = true) (h2 : RwG d) (h3 : ∀ k, halfOf d = some k → k ∈ hs) : RInv hs many (l ++ [d]) where
  row := fun x hx => by
    rcases List.mem_append.mp hx with hx | hx
    · exact h.row x hx
    · rw [List.mem_singleton.mp hx]; exact h1
  rw := fun x hx => by
    rcases List.mem_append.mp hx with hx | hx
    · exact h.rw x hx
    · rw [List.mem_singleton.mp hx]; exact h2
  hv := fun k hk => by
    obtain ⟨x, hx, e⟩ := List.mem_filterMap.mp hk
    rcases List.mem_append.mp hx with hx | hx
    · exact h.hv k (List.mem_filterMap.mpr ⟨x, hx, e⟩)
    · rw [List.mem_singleton.mp hx] at e; exact h3 k e
section
variable {C : Cl} {w : PWi} {P : PEnds} {M : Mm} {a : Addr} {most many at_ : Int} {hs : List Int} {l : List D}
theorem rowsIn_ok (hm : M a = some .draw) (h1 : 1 ≤ many) (h2 : many ≤ 20) (h3 : 0 ≤ at_) (h4 : at_ < many) {gs : List Int} (hg : gs.length < 1000) {x1 x2 x3 x6 x7 x9 x10 : Option Sv}
    (hN : ∀ g : Int, 0 ≤ g → g ≤ many - 1 → ∀ y10, P.nx [some (.val (.raw (.ref a))), x1, x2, x3, some (.val (.int many)), some (.val (.int at_)), x6, x7, some (.own ((gs ++ [g]).map .int)), x9, y10] M) :
    rowsIn C w P [some (.val (.raw (.ref a))), x1, x2, x3, some (.val (.int many)), some (.val (.int at_)), x6, x7, some (.own (gs.map .int)), x9, x10] M := by
  refine ⟨hm, tk_of ?_ ?_, fun k k0 k1 => ?_⟩
  · show 0 < (if many - at_ - 1 > 1 then many - at_ - 1 else 1); split <;> omega
  · show (if many - at_ - 1 > 1 then many - at_ - 1 else 1) ≤ 10 ^ 20; split <;> omega
  · have fin : ∀ g : Int, 0 ≤ g → g ≤ many - 1 → ∀ y10, appR [some (.val (.raw (.ref a))), x1, x2, x3, some (.val (.int many)), some (.val (.int at_)), x6, x7, some (.own (gs.map .int)), x9, y10] 8 (.int g) fun ρ' => P.nx ρ' M := fun g g0 g1 y10 => by
      refine ⟨by rw [List.length_map]; omega, ?_⟩
      have := hN g g0 g1 y10
      rw [List.map_append] at this
      exact this
    refine ⟨trivial, hm, tk_of (by omega) (by omega), fun u u0 u1 => ⟨by show 3 ≤ 1000000; decide, hm, ⟨by show 0 < 3; decide, by show 3 ≤ 100000; decide⟩, fun y hy => ?_⟩⟩
    have hy : y ∈ ([.int (if at_ + 1 + k < many - 1 then at_ + 1 + k else many - 1), .int (if at_ + 1 + k < many - 1 then at_ + 1 + k else many - 1), .int u] : List D) := hy
    simp only [List.mem_cons, List.not_mem_nil, or_false] at hy
    rcases hy with rfl | rfl | rfl
    · exact fin _ (by split <;> omega) (by split <;> omega) _
    · exact fin _ (by split <;> omega) (by split <;> omega) _
    · exact fin _ (by omega) (by omega) _
theorem rowsTell_ok (hm : M a = some .draw) (hI : RInv hs many l) (hl : l.length < 1000) {x1 x2 x4 x5 x6 x7 x8 x9 x10 : Option Sv}
    (hN : ∀ l' : List D, l'.length = l.length + 1 → RInv hs many l' → P.nx [some (.val (.raw (.ref a))), x1, x2, some (.own l'), x4, x5, x6, x7, x8, x9, x10] M) :
    rowsTell C w P [some (.val (.raw (.ref a))), x1, x2, some (.own l), x4, x5, x6, x7, x8, x9, x10] M := by
  refine ⟨trivial, hm, fun s hs => ⟨by show 2 ≤ 1000000; decide, by omega, ?_⟩⟩
  obtain ⟨t1, t2, t3⟩ := tell_row hs many
  exact hN _ (by rw [List.length_append]; rfl) (hI.app t1 t2 fun k e => by rw [t3] at e; cases e)
theorem rowsLook_ok (hm : M a = some .draw) (h1 : 1 ≤ many) (h2 : many ≤ 20) (h3 : 0 ≤ at_) (h4 : at_ < many) (hh : HsOk hs) (hI : RInv hs many l) (hl : l.length < 1000) {x1 x6 x7 x8 x9 x10 : Option Sv}
    (hN : ∀ l' : List D, l'.length = l.length + 1 → RInv hs many l' → ∀ y6 y7 y8 y9 y10, P.nx [some (.val (.raw (.ref a))), x1, some (.val (.lst (hs.map .int))), some (.own l'), some (.val (.int many)), some (.val (.int at_)), y6, y7, y8, y9, y10] M) :
    rowsLook C w P [some (.val (.raw (.ref a))), x1, some (.val (.lst (hs.map .int))), some (.own l), some (.val (.int many)), some (.val (.int at_)), x6, x7, x8, x9, x10] M := by
  have hp : 0 < hs.length := List.length_pos_iff.mpr hh.1
  have h6 := hh.2.1
  refine ⟨hm, ⟨by rw [List.length_map]; omega, by rw [List.length_map]; omega⟩, fun y hy => ?_⟩
  obtain ⟨hf, hhf, rfl⟩ := List.mem_map.mp hy
  obtain ⟨f0, f1⟩ := hh.2.2 hf hhf
  refine ⟨hm, ⟨f0, f1⟩, fun es e1 e2 e3 => ?_⟩
  have el : ((es.map D.int).length : Int) = (es.length : Int) := by rw [List.length_map]
  refine ⟨cmul_of (a := 2) (b := 64) (by decide) (by rw [el]; show (es.length : Int).natAbs < 2 ^ 64; omega) (by decide), ?_, ?_, ?_⟩
  · rw [el]; omega
  · rw [el]; omega
  · have hn : (rngD 0 (2 * ((es.map D.int).length : Int) + 1).toNat).length = 2 * es.length + 1 := by rw [rngD_len, el]; omega
    refine forR_ix (fun j ρ M' => M' = M ∧ ∃ (gs : List Int) (y9 y10 : Option Sv), gs.length = j ∧ (∀ n ∈ gs, 0 ≤ n ∧ n ≤ many - 1) ∧ ρ = [some (.val (.raw (.ref a))), x1, some (.val (.lst (hs.map .int))), some (.own l), some (.val (.int many)), some (.val (.int at_)), some (.val (.int hf)), some (.val (.tup (es.map .int))), some (.own (gs.map .int)), y9, y10]) _ 0 ?_ ?_ _ _
      ⟨rfl, [], _, _, rfl, fun n hn => absurd hn List.not_mem_nil, rfl⟩
    · rintro j d hd F hF ρ M' ⟨rfl, gs, y9, y10, g1, g2, rfl⟩
      have hj := (List.getElem?_eq_some_iff.mp hd).1
      rw [hn] at hj
      refine rowsIn_ok (C := C) hm h1 h2 h3 h4 (by omega) fun g g0 g1' y10 => hF _ _ ⟨rfl, gs ++ [g], _, _, by rw [List.length_append, g1]; rfl, fun n hn => ?_, rfl⟩
      rcases List.mem_append.mp hn with hn | hn
      · exact g2 n hn
      · rw [List.mem_singleton.mp hn]; exact ⟨g0, g1'⟩
    · rintro ρ M' ⟨rfl, gs, y9, y10, g1, g2, rfl⟩
      rw [hn, Nat.zero_add] at g1
      obtain ⟨r1, r2, r3⟩ := look_row f0 f1 e1 e2 e3 h2 g2 g1
      refine ⟨trivial, by show 4 ≤ 1000000; decide, by omega, ?_⟩
      exact hN _ (by rw [List.length_append]; rfl) (hI.app r1 r2 fun k e => by rw [r3] at e; cases e; exact hhf) _ _ _ _ _
theorem rowsOf_ok {top : Int} (ht : 1 ≤ top ∧ top ≤ 20) : Shows (sp__law_rows C) 11 (rowsOf C top) := by
  intro ds M q e h
  obtain ⟨d, x, rfl, h⟩ := ar2_of h
  obtain ⟨a, rfl, hm, h⟩ := asDraw_of h
  obtain ⟨most, rfl, ⟨m0, m1⟩, hq⟩ := asI_of h
  refine ⟨hm, ⟨by decide, by decide, m0, m1⟩, fun hs hh hL h3 => ?_⟩
  refine ⟨by show 4 ≤ 1000000; decide, hm, ⟨by show 0 < 4; decide, by show 4 ≤ 100000; decide⟩, fun y hy => ?_⟩
  obtain ⟨u, rfl, u0, u1⟩ : ∃ u : Int, y = .int u ∧ 1 ≤ u ∧ u ≤ 20 := by
    have hy : y ∈ ([.int 7, .int 7, .int 7, .int top] : List D) := hy
    simp only [List.mem_cons, List.not_mem_nil, or_false] at hy
    rcases hy with rfl | rfl | rfl | rfl
    · exact ⟨_, rfl, by decide, by decide⟩
    · exact ⟨_, rfl, by decide, by decide⟩
    · exact ⟨_, rfl, by decide, by decide⟩
    · exact ⟨_, rfl, ht.1, ht.2⟩
  refine ⟨hm, tk_of (by omega) (by omega), fun k k0 k1 => ⟨by omega, by omega, ?_⟩⟩
  have hn : (rngD 0 (1 + k).toNat).length = (1 + k).toNat := rngD_len
  refine forR_ix (fun j ρ M' => M' = M ∧ ∃ (l : List D) (y5 y6 y7 y8 y9 y10 : Option Sv), l.length = j ∧ RInv hs (1 + k) l ∧ ρ = [some (.val (.raw (.ref a))), some (.val (.int most)), some (.val (.lst (hs.map .int))), some (.own l), some (.val (.int (1 + k))), y5, y6, y7, y8, y9, y10]) _ 0 ?_ ?_ _ _
    ⟨rfl, [], _, _, _, _, _, _, rfl, ⟨fun n hn => absurd hn List.not_mem_nil, fun n hn => absurd hn List.not_mem_nil, fun n hn => absurd hn List.not_mem_nil⟩, rfl⟩
  · rintro j d hd F hF ρ M' ⟨rfl, l, y5, y6, y7, y8, y9, y10, g1, hI, rfl⟩
    obtain ⟨hj, rfl⟩ := rngD_at hd
    have a0 : (0 : Int) ≤ 0 + (j : Int) := by omega
    have a1 : (0 : Int) + (j : Int) < 1 + k := by omega
    have TE : ∀ (w : PWi) (P : PEnds), P.nx = F → rowsTell C w P [some (.val (.raw (.ref a))), some (.val (.int most)), some (.val (.lst (hs.map .int))), some (.own l), some (.val (.int (1 + k))), some (.val (.int (0 + (j : Int)))), y6, y7, y8, y9, y10] M' := fun w P e =>
      rowsTell_ok hm hI (by omega) fun l' e1 e2 => by rw [e]; exact hF _ _ ⟨rfl, l', _, _, _, _, _, _, by omega, e2, rfl⟩
    have LO : ∀ (w : PWi) (P : PEnds), P.nx = F → rowsLook C w P [some (.val (.raw (.ref a))), some (.val (.int most)), some (.val (.lst (hs.map .int))), some (.own l), some (.val (.int (1 + k))), some (.val (.int (0 + (j : Int)))), y6, y7, y8, y9, y10] M' := fun w P e =>
      rowsLook_ok hm (by omega) (by omega) a0 a1 hh hI (by omega) fun l' e1 e2 _ _ _ _ _ => by rw [e]; exact hF _ _ ⟨rfl, l', _, _, _, _, _, _, by omega, e2, rfl⟩
    refine ⟨hm, tk_of (by decide) (by decide), fun t t0 t1 => ⟨rfl, ?_⟩⟩
    show if decide (t = 0) = true then _ else _
    by_cases c1 : t = 0
    · exact itT (decide_eq_true c1) (TE _ _ rfl)
    · refine itF (decide_eq_false c1) ⟨rfl, ?_⟩
      show if decide ((0 : Int) + (j : Int) = 1 + k - 1) = true then _ else _
      by_cases c2 : (0 : Int) + (j : Int) = 1 + k - 1
      · refine itT (decide_eq_true c2) ⟨hm, tk_of (by decide) (by decide), fun t t0 t1 => ?_⟩
        show if decide (t > 0) = true then _ else _
        by_cases c3 : t > 0
        · exact itT (decide_eq_true c3) (TE _ _ rfl)
        · exact itF (decide_eq_false c3) (LO _ _ rfl)
      · exact itF (decide_eq_false c2) (LO _ _ rfl)
  · rintro ρ M' ⟨rfl, l, y5, y6, y7, y8, y9, y10, g1, hI, rfl⟩
    rw [hn, Nat.zero_add] at g1
    refine ⟨M', MLe.refl M', hq l hs ⟨?_, by omega, ?_⟩ hI.rw hh hL hI.hv⟩
    · intro z
      rw [z] at g1
      have : (0 : Nat) = (1 + k).toNat := g1
      omega
    · intro d hd
      have := hI.row d hd
      rwa [show ((l.length : Nat) : Int) = 1 + k by omega]
end
end Px
set_option Elab.async false
set_option linter.all false
set_option maxRecDepth 100000
namespace Px
open PySem PySem.Spec PyProof.Rows L2
def Ev (pe : PTE) (w : PWi) (ρ : Rho) (M : Mm) (d : D) : Prop := ∀ q : PQ, q d M → pe w ρ M q
section
variable {C : Cl} {w : PWi} {ρ : Rho} {M : Mm} {pa pb : PTE} {f g : Int → Bool} {s o : D}
theorem ev_var {i : Nat} {d : D} (h : gt ρ i = some (.val d)) : Ev (dVar i) w ρ M d := fun q hq => by
  unfold dVar
  rw [h]
  exact hq
theorem ev_c {d : D} : Ev (dC d) w ρ M d := fun q hq => hq
theorem run_tst {b : Bool} {q : Bool → Mm → Prop} (ha : Ev pa w ρ M (.bl b)) (hq : q b M) : dTst pa w ρ M q := ha _ hq
end
end Px
set_option Elab.async false
set_option linter.all false
set_option maxRecDepth 100000
namespace Px
open PySem PySem.Spec PyProof.Rows L2
theorem make_prg {C : Cl} {l : List D} {pa : PTE} {w : PWi} {ρ : Rho} {M : Mm} {q : PQ} (ha : Ev pa w ρ M (.tup l)) (h : RowsOk l) (hg : GdA (.tup l)) (hq : q (prgD C l) M) :
    dMake C.Program (sp_Program___init__ C) (dCons pa dNil) w ρ M q := ha _ (run_prg h hg hq)
end Px
set_option Elab.async false
set_option linter.all false
set_option maxRecDepth 100000
namespace Px
open PySem PySem.Spec PyProof.Rows L2
def Op1 (f : F1) (x z : D) : Prop := ∀ k : D → Prop, k z → f x k
def Op2 (f : F2) (x y z : D) : Prop := ∀ k : D → Prop, k z → f x y k
def EvG (pe : PTE) (w : PWi) (ρ : Rho) (M : Mm) (G : D → Prop) : Prop := ∀ q : PQ, (∀ d, G d → q d M) → pe w ρ M q
def EvT (t : PTT) (w : PWi) (ρ : Rho) (M : Mm) (b : Bool) : Prop := ∀ q : Bool → Mm → Prop, q b M → t w ρ M q
def EvA (pl : PTA) (w : PWi) (ρ : Rho) (M : Mm) (ds : List D) : Prop := ∀ q : List D → Mm → Prop, q ds M → pl w ρ M q
section
variable {w : PWi} {ρ : Rho} {M : Mm} {pa pb pc : PTE} {pl : PTA} {t u : PTT} {x y z d : D} {f f' : F2} {g : F1} {b c : Bool} {ds : List D}
theorem ev_own {i : Nat} {l : List D} (h : gt ρ i = some (.own l)) : Ev (dOwn i) w ρ M (.lst l) := fun q hq => by
  unfold dOwn
  rw [h]
  exact hq
theorem ev_op (ha : Ev pa w ρ M x) (hb : Ev pb w ρ M y) (h : Op2 f x y z) : Ev (dOp f pa pb) w ρ M z := fun q hq => ha _ (hb _ (h _ hq))
theorem ev_b1 (ha : Ev pa w ρ M x) (h : Op1 g x z) : Ev (dB1 g pa) w ρ M z := fun q hq => ha _ (h _ hq)
theorem eva_nil : EvA dNil w ρ M [] := fun q hq => hq
theorem eva_cons (ha : Ev pa w ρ M x) (hl : EvA pl w ρ M ds) : EvA (dCons pa pl) w ρ M (x :: ds) := fun q hq => ha _ (hl _ hq)
theorem ev_tup (h : EvA pl w ρ M ds) (hl : ds.length ≤ 1000000 := by decide) : Ev (dTup pl) w ρ M (.tup ds) := fun q hq => h _ ⟨hl, hq⟩
theorem ev_lst (h : EvA pl w ρ M ds) (hl : ds.length ≤ 1000000 := by decide) : Ev (dL (dLst pl)) w ρ M (.lst ds) := fun q hq => h _ ⟨hl, hq⟩
theorem ev_lc (h : EvA pl w ρ M ds) : Ev (dL pl) w ρ M (.lst ds) := fun q hq => h _ hq
theorem ev_call {sp : PSp} {v : D} (h : EvA pl w ρ M ds) (hs : ∀ q e, q v M → sp (ds ++ []) M q e) : Ev (dCall sp [] pl) w ρ M v := fun q hq => h _ (hs _ _ hq)
theorem ev_fld {C : Addr} {n : Str} {ns : List Str} {l : List D} {v : D} (ha : Ev pa w ρ M (.obj C ns l)) (h : (ns.zip l).lookup n = some v) : Ev (dFld C n pa) w ρ M v := fun q hq => ha _ ⟨rfl, v, h, hq⟩
theorem ev_ife (ht : EvT t w ρ M b) (ha : b = true → Ev pa w ρ M d) (hb : b = false → Ev pb w ρ M d) : Ev (dIf t pa pb) w ρ M d := fun q hq => ht _ (by
  cases b with
  | true => exact itT rfl (ha rfl q hq)
  | false => exact itF rfl (hb rfl q hq))
theorem ev_neg {i : Int} (ha : Ev pa w ρ M (.int i)) : Ev (dNeg pa) w ρ M (.int (-i)) := fun q hq => ha _ hq
theorem evt (ha : Ev pa w ρ M (.bl b)) : EvT (dTst pa) w ρ M b := fun q hq => ha _ hq
theorem evt_and {x : Bool} (h : EvT t w ρ M b) (h2 : b = true → EvT u w ρ M c) (e : x = (b && c)) : EvT (dAnd t u) w ρ M x := fun q hq => h _ (by
  subst e
  cases b with
  | true => exact itT rfl (h2 rfl q hq)
  | false => exact itF rfl hq)
theorem evt_orF (h : EvT t w ρ M false) (h2 : EvT u w ρ M b) : EvT (dOr t u) w ρ M b := fun q hq => h _ (itF rfl (h2 q hq))
section
variable {P : PEnds} {p r : PTS} {i : Nat}
theorem if_F (h : EvT t w ρ M false) (k : r w P ρ M) : dIfS t p r w P ρ M := h _ (itF rfl k)
theorem if_ev (h : EvT t w ρ M b) (kt : b = true → p w P ρ M) (kf : b = false → r w P ρ M) : dIfS t p r w P ρ M := h _ (by
  cases b with
  | true => exact itT rfl (kt rfl)
  | false => exact itF rfl (kf rfl))
theorem set_ev (h : Ev pa w ρ M d) (k : P.nx (st ρ i (.val d)) M) : dSet i pa w P ρ M := h _ k
theorem set_evg {G : D → Prop} (h : EvG pa w ρ M G) (k : ∀ d, G d → P.nx (st ρ i (.val d)) M) : dSet i pa w P ρ M := h _ k
theorem seto_ev (h : EvA pl w ρ M ds) (k : P.nx (st ρ i (.own ds)) M) : dSetO i pl w P ρ M := h _ k
theorem ret_ev (h : Ev pa w ρ M d) (k : P.rt d M) : dRet pa w P ρ M := h _ k
theorem app_ev {l : List D} (hg : gt ρ i = some (.own l)) (hl : l.length < 1000000) (h : Ev pa w ρ M d) (k : P.nx (st ρ i (.own (l ++ [d]))) M) : dApp i pa w P ρ M := ⟨by unfold isOwn; rw [hg]; trivial, h _ (by
  unfold appR
  rw [hg]
  exact ⟨hl, k⟩)⟩
theorem sqSet (h : Ev pa w ρ M d) (k : r w P (st ρ i (.val d)) M) : dSeq (dSet i pa) r w P ρ M := h _ k
theorem sqAsg {gd : PTG} (h : Ev pa w ρ M d) (k : gd d ρ fun ρ' => r w P ρ' M) : dSeq (dAsg pa gd) r w P ρ M := h _ k
theorem sqIfFN {s : PTS} (h : EvT t w ρ M false) (k : r w P ρ M) : dSeq (dIfS t s dNext) r w P ρ M := h _ (itF rfl k)
theorem sqSetO (h : EvA pl w ρ M ds) (k : r w P (st ρ i (.own ds)) M) : dSeq (dSetO i pl) r w P ρ M := h _ k
theorem sqApp {l : List D} (hg : gt ρ i = some (.own l)) (hl : l.length < 1000000) (h : Ev pa w ρ M d) (k : r w P (st ρ i (.own (l ++ [d]))) M) : dSeq (dApp i pa) r w P ρ M := app_ev hg hl h k
end
end
section
variable {i j : Int} {l m : List D}
theorem o2_add : Op2 fAdd (.int i) (.int j) (.int (i + j)) := fun k h => h
theorem o2_cat (h : l.length + m.length ≤ 1000000) : Op2 fAdd (.lst l) (.lst m) (.lst (l ++ m)) := fun k hk => ⟨h, hk⟩
theorem o2_catT (h : l.length + m.length ≤ 1000000) : Op2 fAdd (.tup l) (.tup m) (.tup (l ++ m)) := fun k hk => ⟨h, hk⟩
theorem o2_sub : Op2 fSub (.int i) (.int j) (.int (i - j)) := fun k h => h
theorem o2_div (h : CDivW i j) : Op2 fDiv (.int i) (.int j) (.int (i / j)) := fun k hk => ⟨h, hk⟩
theorem o2_mod (h : 0 < j) : Op2 fMod (.int i) (.int j) (.int (i % j)) := fun k hk => ⟨h, hk⟩
theorem o2_cmp {p : Int → Int → Bool} : Op2 (fCmp p) (.int i) (.int j) (.bl (p i j)) := fun k h => h
theorem o2_eqI : Op2 fEq (.int i) (.int j) (.bl (decide (i = j))) := fun k h => ⟨rfl, h⟩
theorem o2_eq {x y : D} (h1 : okD 50 x = true) (h2 : okD 50 y = true) : Op2 fEq x y (.bl (eqD x y)) := fun k h => ⟨by rw [h1, h2]; rfl, h⟩
theorem o2_ne {x y : D} (h1 : okD 50 x = true) (h2 : okD 50 y = true) : Op2 fNe x y (.bl (!eqD x y)) := fun k h => ⟨by rw [h1, h2]; rfl, h⟩
theorem o2_neSS {s : Str} : Op2 fNeS (.str s) (.str s) (.bl false) := fun k h => by
  show k (.bl (!decide (s = s)))
  rw [decide_eq_true rfl]
  exact h
theorem o2_ixL {d : D} (h : atI l i = some d) : Op2 fIx (.lst l) (.int i) d := fun k hk => ⟨d, h, hk⟩
theorem o2_ixT {d : D} (h : atI l i = some d) : Op2 fIx (.tup l) (.int i) d := fun k hk => ⟨d, h, hk⟩
theorem o2_inI {neg : Bool} {y : D} {ns : List Int} (h : itemsD y = some ns) : Op2 (fInI neg) (.int i) y (.bl (if neg = true then !decide (i ∈ ns) else decide (i ∈ ns))) := fun k hk => by
  unfold fInI
  rw [h]
  cases neg <;> exact hk
theorem o1_lenL : Op1 fLen (.lst l) (.int l.length) := fun k h => h
theorem o1_intB {b : Bool} : Op1 fInt (.bl b) (.int (if b = true then 1 else 0)) := fun k h => h
theorem o2_isN {d : D} (h : noRaw d = true) : Op2 fIs d .non (.bl (isN d)) := fun k hk => ⟨h, hk⟩
end
end Px
set_option Elab.async false
set_option linter.all false
set_option maxRecDepth 100000
namespace Px
open PySem PySem.Spec PyProof.Rows L2
theorem callI_of {M : Model} {A : Around} {E : Value → Shared → Prop} {s : Shared} {a : Addr} {pos : Pos} {Q : Value → Shared → Prop} {args : List (Bool × Sem Value)} {keywords : List (Option Str × Sem Value)} (hplain : (args.any (·.1) || keywords.any (·.1.isNone)) = false)
    (h : wpAny M A (evalArgs (.ref a) true args keywords) (fun z s₁ => (∃ C ox od, PySem.W.InstAt s₁.heap a ox C od ∧ ox.data = .plain) ∧ wpAny M A (call (.ref a) ([] ++ z.pos) z.kw) Q E s₁) E s) : wpAny M A (callWith pos (.ref a) [] args keywords) Q E s := by
  unfold callWith
  refine wpAny_bind (wpAny_holding (wpAny_mono h (fun z s₁ h₁ => wpAny_bind (wpAny_standAt ?_)) fun _ _ y => y))
  obtain ⟨⟨C, ox, od, J, hd⟩, h₁⟩ := h₁
  have L := PySem.W.kco_keeper (M := M) J hd
  simp only [hplain]
  refine wpAny_bind (L.here ?_)
  have tail : ∀ {t : Sem Value}, wpAny M A t Q E s₁ → wpAny M A (t >>= fun r => holding [r] point >>= fun _ => pure r) Q E s₁ :=
    fun ht => wpAny_bind (wpAny_mono ht (fun r s₂ hr => wpAny_bind (wpAny_holding (wpAny_point (wpAny_pure hr)))) fun _ _ y => y)
  exact tail (wpAny_operateT h₁)
structure CallOk (K : PySem.W.Frag) (C g : Addr) : Prop where
  at_ : PySem.W.findIn K (.ref C) "__call__" = some (some (.ref g))
  fn : PySem.W.isFn K (.ref g) = true
  fi : PySem.W.fnIn K g = true
theorem ins_at {X : Cx} {pins : List (Addr × Obj)} {σ : L2.St} {H : Hp} {s : Shared} {a dx C : Addr} {fs : List (Str × V)} (I : Inv X pins σ H s) (h : H a = some (.ins C dx fs)) : ∃ ox od, PySem.W.InstAt s.heap a ox C od ∧ ox.data = .plain := by
  obtain ⟨mA, O, _⟩ := ins_get I.hok h
  obtain ⟨od, J, _⟩ := O.look
  exact ⟨_, _, J, rfl⟩
def refD (d : D) : Prop := match d with | .obj _ _ _ => True | .raw (.ref _) => True | _ => False
def dCallI (C : Addr) (sp : PSp) (po : PTE) (pl : PTA) : PTE := fun w ρ M q => po w ρ M fun d M1 => refD d ∧ pl w ρ M1 fun ds M2 => insC C d M2 ∧ sp (d :: ds) M2 q fun cls fs M3 => w cls fs ρ M3
theorem refD_is {K : PySem.W.Frag} {F : Hp} {d : D} {v : V} (h : refD d) (r : Rp K F d v) : ∃ a, v = .ref a := by
  unfold refD at h
  split at h
  · obtain ⟨a, _, _, e, _⟩ := r
    exact ⟨a, e⟩
  · exact ⟨_, r⟩
  · exact h.elim
section
variable {X : Cx} {W : WX} {k n : Nat} {f C : Addr} {fd : FuncData} {ps ks : List Str} {sp : PSp} {pos : Pos} {fe e : Expr} {es : List Expr} {kws : List Keyword} {ix : List Nat} {po : PTE} {pl : PTA}
theorem de_callI (c : CallOk X.K C f) (Fg : FnG X.prog X.w X.K X.mg X.base k f fd ps (toSp X.K n sp)) (hlen : ∀ ds M q e, sp ds M q e → ds.length = n) (hr : Room k X.A) (hG : X.A.guards = some []) (hb : Binds X.K fd ps []) (tk : Takes X W)
    (hf : DE X W fe po) (ha : DA X W (e :: es) pl) (ht : eval (.Call fe (e :: es) [] pos) X.env = (do callWith pos (← eval fe X.env) [] (backTo pos (starEach (e :: es) X.env)) (backToKw pos (keywordEach [] X.env))))
    (he : starEach (e :: es) X.env = (false, eval e X.env) :: starEach es X.env := by rfl) (hpl : (backTo pos (starEach es X.env)).any (·.1) = false := by rfl) : DE X W (.Call fe (e :: es) [] pos) (dCallI C sp po pl) := by
  refine ⟨fun pins s σ H Q I ⟨g, ρ, M, F, O, q, w, A, pr, hw, kk⟩ => ?_⟩
  refine PyProof.Rows.Call_ (thn (hf.run pins s σ H (fun x H1 => ∃ a, x = .ref a ∧ realA X.K W pl σ H1 fun vs H2 => (∃ dx fs, H2 a = some (.ins C dx fs)) ∧ toSp X.K n sp (x :: vs) H2 Q fun cls d H' => W cls d σ H') I ?_) fun u s1 hh => ?_) ht
  · refine ⟨g, ρ, M, F, O, _, w, A, pr, hw, fun v H1 F1 O1 M1 d A1 s1 r1 ⟨rd, q1⟩ => ?_⟩
    obtain ⟨a, e1⟩ := refD_is rd r1
    refine ⟨a, e1, g, ρ, M1, F1, O1, _, w, A1, q1, hw.mono s1, fun vs H2 F2 O2 M2 ds A2 s2 r2 q2 => ?_⟩
    obtain ⟨hi, q3⟩ := q2
    obtain ⟨a2, dx, fs, e2, e3⟩ := insC_is A2 (Rp.mono s2 _ _ r1) hi
    rw [e1] at e2
    cases e2
    refine ⟨⟨dx, fs, e3⟩, ?_⟩
    exact meth_reading A2 ((hw.mono s1).mono s2) (Rp.mono s2 _ _ r1) r2 (hlen _ _ _ _ q3) q3 fun v3 H3 F3 O3 M3 d3 A3 s3 r3 q4 => kk v3 H3 F3 O3 M3 d3 A3 ((s1.trans s2).trans s3) r3 q4
  · obtain ⟨x, H1, I1, rx, a, ex, q1⟩ := hh
    subst ex
    have eu : u = Value.ref a := rx
    subst eu
    have key := thn (ha.run pos pins s1 σ H1 _ I1 q1) (Q' := fun us s2 => (∃ C ox od, PySem.W.InstAt s2.heap a ox C od ∧ ox.data = .plain) ∧ wpAny (model X.prog X.w) X.A (call (.ref a) ([] ++ us)) (EP X pins σ Q) X.xe s2) fun us s2 hh2 => ?_
    · rw [he] at key ⊢
      exact callI_of (by show ((false || (backTo pos (starEach es X.env)).any (·.1)) || false) = false; rw [hpl]; rfl) (PySem.Calls.evalArgs_plain key)
    · obtain ⟨vs, H2, I2, r2, ⟨dx, fs, hi⟩, q2⟩ := hh2
      obtain ⟨ox, od, J, hd⟩ := ins_at I2 hi
      refine ⟨⟨C, ox, od, J, hd⟩, ?_⟩
      refine wpAny_call (PySem.W.kco_code I2.kIn J hd c.at_ c.fn c.fi ?_)
      have r3 : Vals (V.ref a :: vs) (Value.ref a :: us) := .cons rfl r2
      have hl : (Value.ref a :: us).length = ps.length := by rw [← r3.length]; exact Fg.len _ _ _ _ q2
      have bd := hb s2 (Value.ref a :: us) I2.kIn (by rw [List.append_nil]; exact hl)
      rw [List.append_nil] at bd
      refine codeAny_mono (Fg.run X.A X.stack s2 H2 ⟨Value.ref a :: us, []⟩ (Value.ref a :: us) (V.ref a :: vs) Q _ hr hG I2.env0 bd r3 q2) fun r s' hq => ?_
      cases r with
      | error e => exact tk e s' (XE.of_call I2 (fun _ _ _ h => h) hq)
      | ok fl =>
        cases fl with
        | ret u => exact I2.after hq
        | next => exact hq.elim
        | brk => exact hq.elim
        | cont => exact hq.elim
end
def fIdxI : F2 := fun x y k => match x, y with
  | .lst l, .int i => ∃ ns, intsOf l = some ns ∧ i ∈ ns ∧ k (.int ((ns.idxOf i : Nat) : Int))
  | _, _ => False
theorem eqV_int (a b : Int) : eqV (.int a) (.int b) = decide (a = b) := rfl
theorem de_idxI {X : Cx} {W : WX} {o e : Expr} {po pe : PTE} {apos cpos : Pos} (ho : DO X W o po) (he : DO X W e pe) (hbase : attributeBase o "index" X.env (eval o X.env) = eval o X.env := by rfl)
    (hfew : ((backTo cpos (starEach [e] X.env)).all (fun x => !x.1) && (backToKw cpos (keywordEach [] X.env)).all (fun x => x.1.isSome)
      && decide ([e].length + ([] : List Keyword).length + (if ([] : List Keyword).isEmpty then 0 else 1) < 30)) = true := by rfl)
    (hline : (apos.endLine == cpos.line) = true := by rfl) (hs : starEach [e] X.env = (false, eval e X.env) :: starEach [] X.env := by rfl) (hplain : (backTo cpos (starEach [] X.env)).any (·.1) = false := by rfl) :
    DE X W (.Call (.Attribute o "index" apos) [e] [] cpos) (dMtL fIdxI po pe) :=
  pe_imp (pe_bm PySem.F.plainAttrs_list PySem.F.slot_list_index PySem.F.type_list_index mt_index ho (pa_cons he pa_nil hs) hbase hfew hline hs hplain) fun σ H Q h => mtl_run (by
    intro g σ H ρ M F O x y v u k Q A rx ry hh c
    unfold fIdxI at hh
    split at hh
    · rename_i l i
      obtain ⟨ns, e1, hm, hk⟩ := hh
      have e2 := intsOf_eq e1
      subst e2
      obtain ⟨a, xs, rfl, h1, h2⟩ := rx.lst A
      have ex := rpl_ints h2
      subst ex
      have eu := ry.int
      subst eu
      have hlt := List.idxOf_lt_length_iff.mpr hm
      refine ⟨a, ns.map V.int, .int i, ns.idxOf i, .int i, rfl, rfl, .inl (.inl h1), rfl, flat_ints ns, ?_, ?_, ?_, ?_⟩
      · rw [List.getElem?_map, List.getElem?_eq_getElem hlt, List.getElem_idxOf]; rfl
      · rw [eqV_int]; exact decide_eq_true rfl
      · intro m z hm1 hz
        rw [List.getElem?_map] at hz
        have hml : m < ns.length := by omega
        rw [List.getElem?_eq_getElem hml] at hz
        cases hz
        rw [eqV_int]
        refine decide_eq_false fun z => ?_
        have := List.not_of_lt_findIdx (p := (· == i)) (xs := ns) (i := m) hm1
        simp at this
        exact this z
      · exact c (.int ((ns.idxOf i : Nat) : Int)) _ H F O A (Same.refl F) rfl hk
    · exact hh.elim) h
def dParF2L (i j : Nat) (pl : PTA) (pb : PTE) : PTS := fun w P ρ M => pl w ρ M fun ds M1 => pb w ρ M1 fun b M2 => P.nx (st (st ρ i (.own ds)) j (.val b)) M2
section
variable {X : Cx} {W : WX} {pb : PTE} {pl : PTA}
theorem ds_parF2L (i j : Nat) {x y : Str} {a b : Expr} {px py pt : Pos} {kt k2 pt2} {pos : Pos} (hc : X.calm = true) (hN : X.N.Nodup) (ha : DL X W a pl) (hb : DE X W b pb) (hi : X.N[i]? = some x := by rfl) (hj : X.N[j]? = some y := by rfl)
    (hij : i ≠ j := by decide) (hx : X.env.scope.names.lookup x = some .local := by rfl) (hy : X.env.scope.names.lookup y = some .local := by rfl)
    (h1 : starEach [a, b] X.env = (false, eval a X.env) :: starEach [b] X.env := by rfl) (h2 : starEach [b] X.env = (false, eval b X.env) :: starEach [] X.env := by rfl)
    (hw : swappedStores [.Tuple [.Name x px, .Name y py] kt pt] (.Tuple [a, b] k2 pt2) X.env = pure (some [x, y]) := by rfl)
    (hs : swapsWithSole [.Tuple [.Name x px, .Name y py] kt pt] (.Tuple [a, b] k2 pt2) pos.line X.env = pure false := by rfl) :
    DS X W (.Assign [.Tuple [.Name x px, .Name y py] kt pt] (.Tuple [a, b] k2 pt2) pos) (dParF2L i j pl pb) :=
  ps_imp (ps_par hc hN hi hj hij hx hy (pa_cons ha (pa_cons hb pa_nil h2) h1) hw hs) fun D σ H ⟨g, ρ, M, F, O, P, w, A, h, hw, k1, _⟩ =>
    ⟨g, ρ, M, F, O, _, w, A, h, hw, fun t xs H1 F1 O1 M1 ds A1 s1 e1 e2 e3 e4 e5 q1 => ⟨_, ρ, M1, F1, O1, _, w, A1.here, q1, (hw.mono s1).here A1, fun v2 H3 F3 O3 M3 d2 B3 s3 r2 q2 => by
      obtain ⟨z3, f3, o3⟩ := kept_at A1 (D := t) (o := .lst xs) e1 e3 e4 B3
      have A3 := A1.there B3
      exact ⟨.ref t, v2, rfl, k1 _ _ _ M3 F3 _ ((A3.putOwn (i := i) z3 (l := ds) (RpL.mono s3 _ _ e2) f3 o3 e5).put (i := j) r2) (s1.trans s3) q2⟩⟩⟩
end
end Px
set_option Elab.async false
set_option linter.all false
set_option maxRecDepth 100000
namespace Px
open PySem PySem.Spec PyProof.Rows L2
def b2i (b : Bool) : Int := if b = true then 1 else 0
def cellI (es : List Int) (n b : Int) : Int := (es.map fun e => b2i (decide (e * b ≤ n)) + b2i (decide (e * b < n))).sum
theorem cellI_mul {g : Int} (hg : 0 < g) (es : List Int) (n b : Int) : cellI es (g * n) (g * b) = cellI es n b := by
  unfold cellI
  congr 1
  refine List.map_congr_left fun e _ => ?_
  have e1 : e * (g * b) = g * (e * b) := Int.mul_left_comm ..
  rw [e1]
  have h1 : (g * (e * b) ≤ g * n) ↔ (e * b ≤ n) := ⟨fun h => Int.le_of_mul_le_mul_left h hg, fun h => Int.mul_le_mul_of_nonneg_left h (by omega)⟩
  have h2 : (g * (e * b) < g * n) ↔ (e * b < n) := ⟨fun h => Int.lt_of_mul_lt_mul_left h (by omega), fun h => Int.mul_lt_mul_of_pos_left h hg⟩
  rw [decide_eq_decide.mpr h1, decide_eq_decide.mpr h2]
theorem cellI_bd (es : List Int) (n b : Int) : 0 ≤ cellI es n b ∧ cellI es n b ≤ 2 * es.length := by
  unfold cellI
  induction es with
  | nil => simp
  | cons e r ih =>
    rw [List.map_cons, List.sum_cons, List.length_cons]
    have h1 : 0 ≤ b2i (decide (e * b ≤ n)) ∧ b2i (decide (e * b ≤ n)) ≤ 1 := by unfold b2i; split <;> omega
    have h2 : 0 ≤ b2i (decide (e * b < n)) ∧ b2i (decide (e * b < n)) ≤ 1 := by unfold b2i; split <;> omega
    omega
def intsL (l : List D) : List Int := (intsOf l).getD []
theorem intsOf_mp : ∀ ns : List Int, intsOf (ns.map .int) = some ns
  | [] => rfl
  | n :: r => by
    show (intsOf (r.map .int)).map (n :: ·) = _
    rw [intsOf_mp r]; rfl
theorem intsL_map (ns : List Int) : intsL (ns.map .int) = ns := by unfold intsL; rw [intsOf_mp]; rfl
def goalD (d : D) (t b : Int) : Option Int := match d with
  | .tup [.str s, .int h, .tup el, .tup gl] => if s = "look" then atI (intsL gl) (cellI (intsL el) (near (2 * h * b) t) b) else none
  | _ => none
theorem goal_look {h : Int} {es gs : List Int} {t b : Int} : goalD (.tup [.str "look", .int h, .tup (es.map .int), .tup (gs.map .int)]) t b = atI gs (cellI es (near (2 * h * b) t) b) := by
  simp [goalD, intsL_map]
theorem atI_map {ns : List Int} {i k : Int} (h : atI ns i = some k) : atI (ns.map D.int) i = some (.int k) := by
  unfold L2.atI at h ⊢
  rw [List.length_map]
  cases c : ixN ns.length i with
  | none => rw [c] at h; cases h
  | some j =>
    rw [c] at h
    show (ns.map D.int)[j]? = _
    have h : ns[j]? = some k := h
    rw [List.getElem?_map, h]; rfl
theorem atI_in {α : Type} {l : List α} {i : Int} (h0 : 0 ≤ i) (h1 : i < l.length) : ∃ x, atI l i = some x ∧ x ∈ l := by
  have hlt : i.toNat < l.length := by omega
  refine ⟨l[i.toNat], ?_, List.getElem_mem hlt⟩
  have := atI_nat (xs := l) (j := i.toNat) (List.getElem?_eq_getElem hlt)
  rwa [show ((i.toNat : Nat) : Int) = i by omega] at this
def nxP (l : List D) (t b : Int) (k : Int) : Option Int := (atI l k).bind fun d => goalD d t b
def pthF (nx : Int → Option Int) : Nat → List Int → Int → List Int
  | 0, p, _ => p
  | n + 1, p, a => match nx a with
    | none => p
    | some g => if g ∈ p then p ++ [g] else pthF nx n (p ++ [g]) g
def pathP (l : List D) (t b : Int) : List Int := pthF (nxP l t b) 21 [0] 0
inductive RowK (many : Int) : D → Prop where
  | tell (s : Str) (h : isWordD (.str s) = true) : RowK many (.tup [.str "tell", .str s])
  | look (h : Int) (es gs : List Int) (h0 : 1 ≤ h ∧ h ≤ 1000) (ha : asc es) (he : ∀ n ∈ es, 0 ≤ n ∧ n ≤ h) (hl : es.length ≤ 12) (hg : ∀ n ∈ gs, 0 ≤ n ∧ n ≤ many - 1) (hn : gs.length = 2 * es.length + 1) :
    RowK many (.tup [.str "look", .int h, .tup (es.map .int), .tup (gs.map .int)])
theorem rowK {d : D} {many : Int} (h : isRowD d many = true) : RowK many d := by
  rcases row_shape h with ⟨x, rfl, hx⟩ | ⟨hf, el, gl, rfl, h1, h2, h3, h4⟩
  · exact .tell x hx
  · obtain ⟨es, rfl, e1, e2, e3⟩ := ends_ints h2
    obtain ⟨gs, rfl, g1⟩ := int_of_btw h4
    rw [List.length_map, List.length_map] at h3
    exact .look hf es gs h1 e1 e2 e3 g1 h3
theorem RowsOk.at {l : List D} (h : RowsOk l) {k : Int} (h0 : 0 ≤ k) (h1 : k < l.length) : ∃ d, atI l k = some d ∧ d ∈ l ∧ RowK l.length d := by
  obtain ⟨d, e, hd⟩ := atI_in h0 h1
  exact ⟨d, e, hd, rowK (h.row d hd)⟩
theorem goal_ok {d : D} {many t b : Int} (h : RowK many d) : (∃ s, d = .tup [.str "tell", .str s] ∧ goalD d t b = none) ∨ (∃ g, goalD d t b = some g ∧ 0 ≤ g ∧ g ≤ many - 1) := by
  cases h with
  | tell s h => exact .inl ⟨s, rfl, rfl⟩
  | look h es gs h0 ha he hl hg hn =>
    right
    obtain ⟨c0, c1⟩ := cellI_bd es (near (2 * h * b) t) b
    obtain ⟨g, e, hm⟩ := atI_in (l := gs) c0 (by omega)
    exact ⟨g, by rw [goal_look]; exact e, hg g hm⟩
theorem nodup_len : ∀ {ms ns : List Int}, ms.Nodup → (∀ k ∈ ms, k ∈ ns) → ms.length ≤ ns.length
  | [], ns, _, _ => Nat.zero_le _
  | x :: r, ns, h, hs => by
    obtain ⟨h1, h2⟩ := List.nodup_cons.mp h
    have hx := hs x List.mem_cons_self
    have := nodup_len (ms := r) (ns := ns.erase x) h2 fun k hk => (List.mem_erase_of_ne (fun e => by rw [e] at hk; exact h1 hk)).mpr (hs k (List.mem_cons_of_mem _ hk))
    rw [List.length_erase_of_mem hx] at this
    have := List.length_pos_of_mem hx
    rw [List.length_cons]; omega
theorem nodup_rng {ms : List Int} {n : Nat} (h : ms.Nodup) (hs : ∀ k ∈ ms, 0 ≤ k ∧ k < n) : ms.length ≤ n := by
  have := nodup_len (ns := (List.range n).map fun i : Nat => (i : Int)) h fun k hk => List.mem_map.mpr ⟨k.toNat, by have := hs k hk; rw [List.mem_range]; omega, by have := hs k hk; omega⟩
  rwa [List.length_map, List.length_range] at this
structure PthI (many : Nat) (p : List Int) (a : Int) : Prop where
  nd : p.Nodup
  rg : ∀ k ∈ p, 0 ≤ k ∧ k < many
  la : p.getLast? = some a
theorem PthI.mem {many : Nat} {p : List Int} {a : Int} (h : PthI many p a) : a ∈ p := List.mem_of_getLast? h.la
theorem PthI.len {many : Nat} {p : List Int} {a : Int} (h : PthI many p a) : p.length ≤ many := nodup_rng h.nd h.rg
theorem PthI.app {many : Nat} {p : List Int} {a g : Int} (h : PthI many p a) (hg : g ∉ p) (h0 : 0 ≤ g) (h1 : g < many) : PthI many (p ++ [g]) g where
  nd := by
    rw [List.nodup_append]
    refine ⟨h.nd, by simp, fun x hx y hy => ?_⟩
    rw [List.mem_singleton.mp hy]
    exact fun e => hg (e ▸ hx)
  rg := fun k hk => by
    rcases List.mem_append.mp hk with hk | hk
    · exact h.rg k hk
    · rw [List.mem_singleton.mp hk]; exact ⟨h0, h1⟩
  la := by simp
theorem pthI0 {l : List D} (h : RowsOk l) : PthI l.length [0] 0 where
  nd := by simp
  rg := fun k hk => by
    rw [List.mem_singleton.mp hk]
    have := List.length_pos_iff.mpr h.ne
    omega
  la := rfl
structure PthE (l : List D) (t b : Int) (p : List Int) (a : Int) : Prop where
  rg : ∀ k ∈ p, 0 ≤ k ∧ k < l.length
  la : p.getLast? = some a
  len : p.length ≤ 21
  fin : nxP l t b a = none ∨ a ∈ p.dropLast
theorem pth_end {l : List D} (h : RowsOk l) {t b : Int} : ∀ (n : Nat) (p : List Int) (a : Int), PthI l.length p a → n + p.length = 22 → ∃ a', PthE l t b (pthF (nxP l t b) n p a) a'
  | 0, p, a, hp, hn => by have := hp.len; have := h.len; omega
  | n + 1, p, a, hp, hn => by
    have h20 := h.len
    have hpl := hp.len
    obtain ⟨a0, a1⟩ := hp.rg a hp.mem
    obtain ⟨d, hd, hdm, hk⟩ := h.at a0 a1
    have e : nxP l t b a = goalD d t b := by unfold nxP; rw [hd]; rfl
    show ∃ a', PthE l t b (match nxP l t b a with | none => p | some g => if g ∈ p then p ++ [g] else pthF (nxP l t b) n (p ++ [g]) g) a'
    rcases goal_ok (t := t) (b := b) hk with ⟨s, _, e2⟩ | ⟨g, e2, g0, g1⟩
    · rw [e, e2]
      show ∃ a', PthE l t b p a'
      exact ⟨a, hp.rg, hp.la, by omega, .inl (by rw [e, e2])⟩
    · rw [e, e2]
      show ∃ a', PthE l t b (if g ∈ p then p ++ [g] else pthF (nxP l t b) n (p ++ [g]) g) a'
      by_cases c : g ∈ p
      · rw [if_pos c]
        refine ⟨g, fun k hk => ?_, by simp, by rw [List.length_append]; show p.length + 1 ≤ 21; omega, .inr (by rw [List.dropLast_concat]; exact c)⟩
        rcases List.mem_append.mp hk with hk | hk
        · exact hp.rg k hk
        · rw [List.mem_singleton.mp hk]; exact ⟨g0, by omega⟩
      · rw [if_neg c]
        exact pth_end h n (p ++ [g]) g (hp.app c g0 (by omega)) (by rw [List.length_append]; show n + (p.length + 1) = 22; omega)
theorem path_end {l : List D} (h : RowsOk l) (t b : Int) : ∃ a, PthE l t b (pathP l t b) a := pth_end h 21 [0] 0 (pthI0 h) rfl
end Px
set_option Elab.async false
set_option linter.all false
set_option maxRecDepth 100000
namespace Px
open PySem PySem.Spec PyProof.Rows L2
def sp_cell_of (C : Cl) : PSp := fun ds M q _ => ar2 ds fun d f => ∃ es tp bt, d = .tup (es.map .int) ∧ f = .tup [.int tp, .int bt] ∧ (es.length ≤ 100 ∧ (∀ e ∈ es, 0 ≤ e ∧ e ≤ 1000000) ∧ 0 ≤ bt ∧ bt ≤ 2 ^ 1000) ∧ q (.int (cellI es tp bt)) M
def rd_cell_of (C : Cl) : PTS := (dSeq (dAsg (dVar 1) (gTp 2 (gsCons (gNm 2) (gsCons (gNm 3) gsNil))))
    (dRet (dB1 fSum (dL (dComp [4] (iA (dVar 0)) (gNm 4) dYes (dOp fAdd (dB1 fInt (dOp fGe (dVar 2) (dOp fMul (dVar 4) (dVar 3)))) (dB1 fInt (dOp fGt (dVar 2) (dOp fMul (dVar 4) (dVar 3))))))))))
theorem mul_ends {e b : Int} (h0 : 0 ≤ e) (h1 : e ≤ 1000000) (b0 : 0 ≤ b) (b1 : b ≤ 2 ^ 1000) : CMulX e b := cmul_of (a := 64) (b := 1001) (by clear b1; omega) (by
  have : b.natAbs ≤ 2 ^ 1000 := by omega
  exact Nat.lt_of_le_of_lt this (by decide)) (by decide)
theorem sh_cell_of (C : Cl) : Shows (sp_cell_of C) 5 (rd_cell_of C) := by
  intro ds M q e h
  obtain ⟨d, f, rfl, es, tp, bt, rfl, rfl, ⟨hl, he, b0, b1⟩, hq⟩ := ar2_of h
  refine ⟨rfl, rfl, ?_⟩
  refine compR_map (fun d => match d with | .int e => .int (b2i (decide (e * bt ≤ tp)) + b2i (decide (e * bt < tp))) | d => d) _ (fun d hd kt kf k => ?_) (by rw [List.length_map]; omega) ?_
  · obtain ⟨e, hm, rfl⟩ := List.mem_map.mp hd
    have hmul := mul_ends (he e hm).1 (he e hm).2 b0 b1
    exact ⟨hmul, hmul, k⟩
  · rw [List.map_map]
    show match intsOf (es.map (D.int ∘ fun e => b2i (decide (e * bt ≤ tp)) + b2i (decide (e * bt < tp)))) with | some ns => _ | _ => False
    rw [← List.map_map, intsOf_mp]
    exact ⟨M, MLe.refl M, hq⟩
def sp_goal_of (C : Cl) : PSp := fun ds M q _ => ar3 ds fun d x y => asI x fun t => asI y fun b => (∃ many, RowK many d) ∧ (0 ≤ t ∧ 0 < b ∧ b ≤ 2 ^ 1000) ∧ ∃ g, goalD d t b = some g ∧ q (.int g) M
def rd_goal_of (C : Cl) : PTS := (dRet (dOp fIx (dOp fIx (dVar 0) (dC (.int 3))) (dCall (sp_cell_of C) [] (dCons (dOp fIx (dVar 0) (dC (.int 2))) (dCons (dCall (sp_folded C) [] (dCons (dOp fIx (dVar 0) (dC (.int 1))) (dCons (dVar 1) (dCons (dVar 2) dNil)))) dNil)))))
theorem sh_goal_of (C : Cl) : Shows (sp_goal_of C) 3 (rd_goal_of C) := by
  intro ds M q e hh
  obtain ⟨d, x, y, rfl, hh⟩ := ar3_of hh
  obtain ⟨t, rfl, hh⟩ := asI_of hh
  obtain ⟨b, rfl, ⟨many, hk⟩, ⟨t0, b0, b1⟩, g, hg, hq⟩ := asI_of hh
  clear hh
  cases hk with
  | tell s hs => cases hg
  | look h es gs h0 ha he hl hgs hn =>
    rw [goal_look] at hg
    have nb := near_bounds (s := 2 * h * b) (Int.mul_pos (by omega) b0) t
    obtain ⟨u, v, gg, es1, u0, v0, g0', ex, ey, ux, vy⟩ := spd_parts nb.1 b0
    refine ⟨_, at3, _, at2, _, at1, ⟨by omega, t0, b0⟩, ⟨by omega, b1⟩, ?_⟩
    have e0 : foldD h t b = .tup [.int u, .int v] := es1
    rw [e0]
    refine ⟨es, u, v, rfl, rfl, ⟨by omega, fun e hm => by have := he e hm; omega, by omega, by omega⟩, ?_⟩
    have e1 : cellI es u v = cellI es (near (2 * h * b) t) b := by
      rw [← cellI_mul g0' es u v, ← ex, ← ey]
    rw [e1]
    exact ⟨_, atI_map hg, M, MLe.refl M, hq⟩
theorem ixT_ev {w : PWi} {ρ : Rho} {M : Mm} {pa pb : PTE} {l : List D} {i : Int} {d : D} (ha : Ev pa w ρ M (.tup l)) (hb : Ev pb w ρ M (.int i)) (h : atI l i = some d) : Ev (dOp fIx pa pb) w ρ M d := ev_op ha hb (o2_ixT h)
theorem ixL_ev {w : PWi} {ρ : Rho} {M : Mm} {pa pb : PTE} {l : List D} {i : Int} {d : D} (ha : Ev pa w ρ M (.lst l)) (hb : Ev pb w ρ M (.int i)) (h : atI l i = some d) : Ev (dOp fIx pa pb) w ρ M d := ev_op ha hb (o2_ixL h)
def sortS : D → Str
  | .tup (.str s :: _) => s
  | _ => ""
theorem RowK.sort {many : Int} {d : D} (h : RowK many d) : ∃ r, d = .tup (.str (sortS d) :: r) ∧ (sortS d = "tell" ∨ sortS d = "look") := by
  cases h with
  | tell s h => exact ⟨_, rfl, .inl rfl⟩
  | look h es gs h0 ha he hl hg hn => exact ⟨_, rfl, .inr rfl⟩
theorem ev_is {w : PWi} {ρ : Rho} {M : Mm} {pa : PTE} {many : Int} {d : D} {s : Str} (h : RowK many d) (hs : PyData.strOk s = true) (ha : Ev pa w ρ M d) : Ev (dOp fEq (dOp fIx pa (dC (.int 0))) (dC (.str s))) w ρ M (.bl (decide (sortS d = s))) := by
  obtain ⟨r, e, hh⟩ := h.sort
  have o1 : okD 50 (.str (sortS d)) = true := by
    show PyData.strOk _ = true
    rcases hh with hh | hh <;> (rw [hh]; decide +kernel)
  have ha2 : Ev pa w ρ M (.tup (.str (sortS d) :: r)) := e ▸ ha
  exact ev_op (ixT_ev ha2 ev_c at0) ev_c (o2_eq o1 hs)
theorem sort_look {many t b : Int} {d : D} (h : RowK many d) : (sortS d = "look" → ∃ g, goalD d t b = some g ∧ 0 ≤ g ∧ g ≤ many - 1) ∧ (sortS d ≠ "look" → goalD d t b = none ∧ ∃ s, d = .tup [.str "tell", .str s]) := by
  cases h with
  | tell s h => exact ⟨fun z => absurd (show ("tell" : Str) = "look" from z) (by decide +kernel), fun _ => ⟨rfl, s, rfl⟩⟩
  | look h es gs h0 ha he hl hg hn =>
    refine ⟨fun _ => ?_, fun z => absurd rfl z⟩
    rcases goal_ok (t := t) (b := b) (RowK.look h es gs h0 ha he hl hg hn) with ⟨s, e, _⟩ | hh
    · injection e with e
      injection e with e
      injection e with e
      exact absurd e (by decide +kernel)
    · exact hh
def sp_path_of (C : Cl) : PSp := fun ds M q _ => ar3 ds fun d x y => asI x fun t => asI y fun b => ∃ l, d = .tup l ∧ RowsOk l ∧ (0 ≤ t ∧ 0 < b ∧ b ≤ 2 ^ 1000) ∧ q (.tup ((pathP l t b).map .int)) M
def rd_path_of (C : Cl) : PTS := (dSeq (dParF2L 3 4 (dLst (dCons (dC (.int 0)) dNil)) (dC (.int 0)))
    (dSeq (dWhile (dTst (dOp fEq (dOp fIx (dOp fIx (dVar 0) (dVar 4)) (dC (.int 0))) (dC (.str "look")))) (dSeq (dSet 4 (dCall (sp_goal_of C) [] (dCons (dOp fIx (dVar 0) (dVar 4)) (dCons (dVar 1) (dCons (dVar 2) dNil)))))
    (dSeq (dIfS (dTst (dOp (fInI false) (dVar 4) (dOwn 3))) (dRet (dB1 fTup (dOp fAdd (dOwn 3) (dL (dLst (dCons (dVar 4) dNil)))))) dNext)
    (dApp 3 (dVar 4)))))
    (dRet (dB1 fTup (dOwn 3)))))
theorem sh_path_of (C : Cl) : Shows (sp_path_of C) 5 (rd_path_of C) := by
  intro ds M q e h
  obtain ⟨d, x, y, rfl, h⟩ := ar3_of h
  obtain ⟨t, rfl, h⟩ := asI_of h
  obtain ⟨b, rfl, l, rfl, hr, ⟨t0, b0, b1⟩, hq⟩ := asI_of h
  clear h
  have fin : ∀ (P : PEnds), P.rt = (fun d M' => ∃ M2, MLe M2 M' ∧ q d M2) → ∀ p : List Int, p = pathP l t b → P.rt (.tup (p.map .int)) M := fun P e p ep => by
    rw [e, ep]
    exact ⟨M, MLe.refl M, hq⟩
  refine ⟨by show 1 ≤ 1000000; decide, ?_⟩
  refine ⟨fun m ρ M' => M' = M ∧ ∃ (p : List Int) (a : Int), ρ = [some (.val (.tup l)), some (.val (.int t)), some (.val (.int b)), some (.own (p.map .int)), some (.val (.int a))] ∧ PthI l.length p a ∧ m + p.length = 22 ∧ pthF (nxP l t b) m p a = pathP l t b,
    ⟨21, rfl, [0], 0, rfl, pthI0 hr, rfl, rfl⟩, ?_⟩
  rintro m ρ M' ⟨rfl, p, a, rfl, hI, hm, hF⟩
  obtain ⟨a0, a1⟩ := hI.rg a hI.mem
  obtain ⟨d, hd, hdm, hk⟩ := hr.at a0 a1
  have hpl := hI.len
  have h20 := hr.len
  obtain ⟨m, rfl⟩ : ∃ k, m = k + 1 := ⟨m - 1, by omega⟩
  have hx : nxP l t b a = goalD d t b := by unfold nxP; rw [hd]; rfl
  have eF : (match nxP l t b a with | none => p | some g => if g ∈ p then p ++ [g] else pthF (nxP l t b) m (p ++ [g]) g) = pathP l t b := hF
  refine run_tst (ev_is hk (by decide +kernel) (ixT_ev (ev_var rfl) (ev_var rfl) hd)) ?_
  obtain ⟨h1, h2⟩ := sort_look (t := t) (b := b) hk
  by_cases c : sortS d = "look"
  · rw [decide_eq_true c]
    refine itT rfl ?_
    obtain ⟨g, hg, g0, g1⟩ := h1 c
    rw [hx, hg] at eF
    have eF : (if g ∈ p then p ++ [g] else pthF (nxP l t b) m (p ++ [g]) g) = pathP l t b := eF
    refine ⟨d, hd, ⟨_, hk⟩, ⟨t0, b0, b1⟩, g, hg, ?_⟩
    dsimp only [dSeq, dIfS]
    refine run_tst (ρ := [some (.val (.tup l)), some (.val (.int t)), some (.val (.int b)), some (.own (p.map .int)), some (.val (.int g))]) (pa := dOp (fInI false) (dVar 4) (dOwn 3)) (ev_op (ev_var rfl) (ev_own rfl) (o2_inI (intsOf_mp p))) ?_
    show if decide (g ∈ p) = true then _ else _
    by_cases cg : g ∈ p
    · rw [if_pos cg] at eF
      refine itT (decide_eq_true cg) ?_
      refine ⟨by show 1 ≤ 1000000; decide, by rw [List.length_map]; show p.length + 1 ≤ 1000000; omega, ?_⟩
      have := fin { nx := fun x M' => ∃ M2, MLe M2 M' ∧ q .non M2, rt := fun d M' => ∃ M2, MLe M2 M' ∧ q d M2 } rfl _ eF
      rw [List.map_append] at this
      exact this
    · rw [if_neg cg] at eF
      refine itF (decide_eq_false cg) ?_
      refine app_ev rfl (by rw [List.length_map]; omega) (ev_var rfl) ?_
      refine ⟨m, by omega, rfl, p ++ [g], g, by rw [List.map_append]; rfl, hI.app cg g0 (by omega), by rw [List.length_append]; show m + (p.length + 1) = 22; omega, eF⟩
  · rw [decide_eq_false c]
    refine itF rfl ?_
    rw [hx, (h2 c).1] at eF
    exact fin { nx := fun x M' => ∃ M2, MLe M2 M' ∧ q .non M2, rt := fun d M' => ∃ M2, MLe M2 M' ∧ q d M2 } rfl p eF
end Px
set_option Elab.async false
set_option linter.all false
set_option maxRecDepth 100000
namespace Px
open PySem PySem.Spec PyProof.Rows L2
theorem at_lastD {ps : List Int} {a : Int} (h : ps.getLast? = some a) : atI (ps.map D.int) (-1) = some (.int a) := by
  have hne : ps ≠ [] := by intro e; rw [e] at h; cases h
  have e : ps.getLast hne = a := by
    rw [List.getLast?_eq_some_getLast hne] at h
    exact Option.some.inj h
  have := L2.atI_last ps.dropLast (ps.getLast hne)
  rw [List.dropLast_concat_getLast, e] at this
  exact atI_map this
def wordA (l : List D) (a : Int) : D := match atI l a with
  | some (.tup [.str s, x]) => if s = "tell" then x else .non
  | _ => .non
def wordP (l : List D) (p : List Int) : D := match p.getLast? with
  | some a => wordA l a
  | none => .non
theorem wordA_tell {l : List D} {a : Int} {x : D} (h : atI l a = some (.tup [.str "tell", x])) : wordA l a = x := by
  unfold wordA
  rw [h]
  exact if_pos rfl
theorem wordA_look {l : List D} {a many : Int} {d : D} (h : atI l a = some d) (hk : RowK many d) (hl : sortS d ≠ "tell") : wordA l a = .non := by
  unfold wordA
  rw [h]
  cases hk with
  | tell s hs => exact absurd rfl hl
  | look h es gs h0 ha he hl hg hn => rfl
def sp_word_of (C : Cl) : PSp := fun ds M q _ => ar2 ds fun d x => ∃ l ps, d = .tup l ∧ x = .tup (ps.map .int) ∧ RowsOk l ∧ (∃ a : Int, ps.getLast? = some a ∧ 0 ≤ a ∧ a < l.length) ∧ q (wordP l ps) M
def rd_word_of (C : Cl) : PTS := (dRet (dIf (dTst (dOp fEq (dOp fIx (dOp fIx (dVar 0) (dOp fIx (dVar 1) (dNeg (dC (.int 1))))) (dC (.int 0))) (dC (.str "tell")))) (dOp fIx (dOp fIx (dVar 0) (dOp fIx (dVar 1) (dNeg (dC (.int 1))))) (dC (.int 1))) (dC .non)))
theorem sh_word_of (C : Cl) : Shows (sp_word_of C) 2 (rd_word_of C) := by
  intro ds M q e h
  obtain ⟨d, x, rfl, l, ps, rfl, rfl, hr, ⟨a, ha, a0, a1⟩, hq⟩ := ar2_of h
  obtain ⟨d, hd, hdm, hk⟩ := hr.at a0 a1
  have ew : wordP l ps = wordA l a := by unfold wordP; rw [ha]
  rw [ew] at hq
  have hrow : Ev (dOp fIx (dVar 0) (dOp fIx (dVar 1) (dNeg (dC (.int 1))))) (fun cls fs x M' => ∃ M2, MLe M2 M' ∧ e cls fs M2) (startR 2 [.tup l, .tup (ps.map .int)]) M d :=
    ixT_ev (ev_var rfl) (ixT_ev (ev_var rfl) (ev_neg ev_c) (at_lastD ha)) hd
  refine ret_ev (d := wordA l a) (ev_ife (evt (ev_is hk (by decide +kernel) hrow)) (fun c => ?_) (fun c => ?_)) ⟨M, MLe.refl M, hq⟩
  · have c := of_decide_eq_true c
    have e2 : ∃ s, d = .tup [.str "tell", .str s] := by
      cases hk with
      | tell s h => exact ⟨s, rfl⟩
      | look h es gs h0 ha he hl hg hn => exact absurd (show ("look" : Str) = "tell" from c) (by decide +kernel)
    obtain ⟨s, rfl⟩ := e2
    rw [wordA_tell hd]
    exact ixT_ev hrow ev_c at1
  · have c := of_decide_eq_false c
    rw [wordA_look hd hk c]
    exact ev_c
def sp_Program___call__ (C : Cl) : PSp := fun ds M q e => ar2 ds fun s x => ∃ l, s = prgD C l ∧ RowsOk l ∧ (plain x = true ∧ parts x = true) ∧ ((isSpD x = false ∧ e (.ref C.BadSpeed) [] M) ∨ (∃ t b, x = .tup [.int t, .int b] ∧ isSpD x = true ∧ b ≤ 2 ^ 1000 ∧ q (.tup ((pathP l t b).map .int)) M))
def rd_Program___call__ (C : Cl) : PTS := (dSeq (dDrop (dCall (sp_need_speed C) [] (dCons (dVar 1) dNil)))
    (dRet (dCall (sp_path_of C) [] (dCons (dFld C.Program "p_rows" (dVar 0)) (dCons (dOp fIx (dVar 1) (dC (.int 0))) (dCons (dOp fIx (dVar 1) (dC (.int 1))) dNil))))))
theorem isSp_int {t b : Int} (h : isSpD (.tup [.int t, .int b]) = true) : 0 ≤ t ∧ 0 < b ∧ g0 t b = 1 := by
  have h : (decide (0 ≤ t) && (decide (1 ≤ b) && decide (g0 t b = 1))) = true := h
  simp only [Bool.and_eq_true, decide_eq_true_eq] at h
  omega
theorem sh_Program___call__ (C : Cl) : Shows (sp_Program___call__ C) 2 (rd_Program___call__ C) := by
  intro ds M q e h
  obtain ⟨s, x, rfl, l, rfl, hr, ⟨hp, hpa⟩, hh⟩ := ar2_of h
  refine ⟨hp, hpa, ?_⟩
  rcases hh with ⟨hs, he⟩ | ⟨t, b, rfl, hs, hb, hq⟩
  · rw [if_neg (by rw [hs]; decide)]
    exact ⟨M, MLe.refl M, he⟩
  · rw [if_pos hs]
    obtain ⟨t0, b0, _⟩ := isSp_int hs
    exact ⟨rfl, _, rfl, _, at0, _, at1, l, rfl, hr, ⟨t0, b0, hb⟩, M, MLe.refl M, hq⟩
def sp__law_cell (C : Cl) : PSp := fun ds M q _ => ar3 ds fun d x y => asI x fun tp => asI y fun bt => ∃ es, d = .tup (es.map .int) ∧ asc es ∧ (es.length ≤ 100 ∧ (∀ e ∈ es, 0 ≤ e ∧ e ≤ 1000000) ∧ 0 < bt ∧ bt ≤ 2 ^ 1000) ∧ q (.int (cellI es tp bt)) M
def rd__law_cell (C : Cl) : PTS := (dSeq (dSet 3 (dC (.int 0)))
    (dSeq (dFor (iA (dVar 0)) (gNm 4) (dSeq (dIfS (dTst (dOp fEq (dVar 1) (dOp fMul (dVar 4) (dVar 2)))) (dRet (dOp fAdd (dVar 3) (dC (.int 1)))) dNext)
    (dSeq (dIfS (dTst (dOp fLt (dVar 1) (dOp fMul (dVar 4) (dVar 2)))) (dRet (dVar 3)) dNext)
    (dSet 3 (dOp fAdd (dVar 3) (dC (.int 2)))))))
    (dRet (dVar 3))))
def bd_cell (C : Cl) : PTS := (dSeq (dIfS (dTst (dOp fEq (dVar 1) (dOp fMul (dVar 4) (dVar 2)))) (dRet (dOp fAdd (dVar 3) (dC (.int 1)))) dNext)
    (dSeq (dIfS (dTst (dOp fLt (dVar 1) (dOp fMul (dVar 4) (dVar 2)))) (dRet (dVar 3)) dNext)
    (dSet 3 (dOp fAdd (dVar 3) (dC (.int 2))))))
theorem cell_zero {es : List Int} {n b : Int} (h : ∀ e ∈ es, n < e * b) : cellI es n b = 0 := by
  unfold cellI
  induction es with
  | nil => rfl
  | cons e r ih =>
    rw [List.map_cons, List.sum_cons, ih fun x hx => h x (List.mem_cons_of_mem _ hx)]
    have := h e List.mem_cons_self
    rw [decide_eq_false (by omega), decide_eq_false (by omega)]; rfl
theorem cell_cons (e : Int) (r : List Int) (n b : Int) : cellI (e :: r) n b = b2i (decide (e * b ≤ n)) + b2i (decide (e * b < n)) + cellI r n b := rfl
theorem cell_loop (C : Cl) {w : PWi} {P : PEnds} {M : Mm} {x0 : Option Sv} {tp bt : Int} (b0 : 0 < bt) (b1 : bt ≤ 2 ^ 1000) : ∀ (es : List Int) (f : Int) (x4 : Option Sv), asc es → (∀ e ∈ es, 0 ≤ e ∧ e ≤ 1000000) →
    P.rt (.int (f + cellI es tp bt)) M → (∀ x4, P.nx [x0, some (.val (.int tp)), some (.val (.int bt)), some (.val (.int (f + cellI es tp bt))), x4] M) →
    forR (gNm 4) (bd_cell C) w (es.map .int) P [x0, some (.val (.int tp)), some (.val (.int bt)), some (.val (.int f)), x4] M
  | [], f, x4, _, _, _, hn => by
    have := hn x4
    rw [show f + cellI [] tp bt = f from Int.add_zero f] at this
    exact this
  | e :: r, f, x4, ha, he, hr, hn => by
    obtain ⟨a1, a2⟩ := List.pairwise_cons.mp ha
    have hmul := mul_ends (he e List.mem_cons_self).1 (he e List.mem_cons_self).2 (Int.le_of_lt b0) b1
    have gt : ∀ x ∈ r, e * bt < x * bt := fun x hx => Int.mul_lt_mul_of_pos_right (a1 x hx) b0
    refine ⟨hmul, rfl, ?_⟩
    show if decide (tp = e * bt) = true then _ else _
    rw [cell_cons] at hr hn
    by_cases c : tp = e * bt
    · refine itT (decide_eq_true c) ?_
      rw [cell_zero fun x hx => by rw [c]; exact gt x hx, decide_eq_true (show e * bt ≤ tp by omega), decide_eq_false (show ¬ e * bt < tp by omega)] at hr
      exact hr
    · refine itF (decide_eq_false c) ⟨hmul, ?_⟩
      show if decide (tp < e * bt) = true then _ else _
      by_cases c2 : tp < e * bt
      · refine itT (decide_eq_true c2) ?_
        rw [cell_zero fun x hx => by have := gt x hx; omega, decide_eq_false (show ¬ e * bt ≤ tp by omega), decide_eq_false (show ¬ e * bt < tp by omega)] at hr
        rw [show f + (b2i false + b2i false + 0) = f from Int.add_zero f] at hr
        exact hr
      · refine itF (decide_eq_false c2) ?_
        have e2 : f + (b2i (decide (e * bt ≤ tp)) + b2i (decide (e * bt < tp)) + cellI r tp bt) = f + 2 + cellI r tp bt := by
          rw [decide_eq_true (show e * bt ≤ tp by omega), decide_eq_true (show e * bt < tp by omega)]
          show f + (1 + 1 + cellI r tp bt) = _
          omega
        rw [e2] at hr hn
        exact cell_loop C b0 b1 r (f + 2) _ a2 (fun x hx => he x (List.mem_cons_of_mem _ hx)) hr hn
theorem sh__law_cell (C : Cl) : Shows (sp__law_cell C) 5 (rd__law_cell C) := by
  intro ds M q e h
  obtain ⟨d, x, y, rfl, h⟩ := ar3_of h
  obtain ⟨tp, rfl, h⟩ := asI_of h
  obtain ⟨bt, rfl, es, rfl, ha, ⟨hl, he, b0, b1⟩, hq⟩ := asI_of h
  refine cell_loop C b0 b1 es 0 none ha he ?_ fun x4 => ?_
  · rw [Int.zero_add]; exact ⟨M, MLe.refl M, hq⟩
  · rw [Int.zero_add]; exact ⟨M, MLe.refl M, hq⟩
end Px
set_option Elab.async false
set_option linter.all false
set_option maxRecDepth 100000
namespace Px
open PySem PySem.Spec PyProof.Rows L2
def sp__law_path (C : Cl) : PSp := fun ds M q _ => ar2 ds fun d x => ∃ l t b, d = .tup l ∧ x = .tup [.int t, .int b] ∧ RowsOk l ∧ (0 ≤ t ∧ t ≤ 10 ^ 60 ∧ 0 < b ∧ b ≤ 10 ^ 60) ∧ q (.tup ((pathP l t b).map .int)) M
def rd__law_path (C : Cl) : PTS := (dSeq (dSetO 2 (dLst (dCons (dC (.int 0)) dNil)))
    (dSeq (dWhile (dAnd (dTst (dOp fEq (dOp fIx (dOp fIx (dVar 0) (dOp fIx (dOwn 2) (dNeg (dC (.int 1))))) (dC (.int 0))) (dC (.str "look")))) (dTst (dOp fEq (dMtL fIdxI (dOwn 2) (dOp fIx (dOwn 2) (dNeg (dC (.int 1))))) (dOp fSub (dB1 fLen (dOwn 2)) (dC (.int 1)))))) (dSeq (dAsg (dOp fIx (dVar 0) (dOp fIx (dOwn 2) (dNeg (dC (.int 1))))) (gTp 4 (gsCons (gNm 3) (gsCons (gNm 4) (gsCons (gNm 5) (gsCons (gNm 6) gsNil))))))
    (dSeq (dAsg (dCall (sp__law_seen C) [] (dCons (dVar 4) (dCons (dVar 1) dNil))) (gTp 2 (gsCons (gNm 7) (gsCons (gNm 8) gsNil))))
    (dApp 2 (dOp fIx (dVar 6) (dCall (sp__law_cell C) [] (dCons (dVar 5) (dCons (dVar 7) (dCons (dVar 8) dNil)))))))))
    (dRet (dB1 fTup (dOwn 2)))))
theorem idx_last {p : List Int} {a : Int} (h : p.Nodup) (hl : p.getLast? = some a) : (p.idxOf a : Int) = p.length - 1 := by
  have hne : p ≠ [] := by intro e; rw [e] at hl; cases hl
  have e : p.getLast hne = a := by
    rw [List.getLast?_eq_some_getLast hne] at hl
    exact Option.some.inj hl
  obtain ⟨i, hi⟩ : ∃ i, p = i ++ [a] := ⟨p.dropLast, by rw [← e, List.dropLast_concat_getLast]⟩
  subst hi
  rw [List.nodup_append] at h
  have na : a ∉ i := fun z => h.2.2 a z a (by simp) rfl
  rw [List.idxOf_append, if_neg na, List.length_append]
  simp
theorem idx_first {p : List Int} {a : Int} (h : a ∈ p.dropLast) : (p.idxOf a : Int) < p.length - 1 := by
  have hne : p ≠ [] := by intro e; rw [e] at h; cases h
  have e : p = p.dropLast ++ [p.getLast hne] := (List.dropLast_concat_getLast hne).symm
  have h1 := List.idxOf_lt_length_iff.mpr h
  rw [e, List.idxOf_append, if_pos h, List.length_append]
  simp only [List.length_singleton]
  omega
theorem sh__law_path (C : Cl) : Shows (sp__law_path C) 9 (rd__law_path C) := by
  intro ds M q e h
  obtain ⟨d, x, rfl, l, t, b, rfl, rfl, hr, ⟨t0, t1, b0, b1⟩, hq⟩ := ar2_of h
  clear h
  refine ⟨by show 1 ≤ 1000000; decide, ?_⟩
  refine ⟨fun m ρ M' => M' = M ∧ ∃ (p : List Int) (a : Int) (x3 x4 x5 x6 x7 x8 : Option Sv), ρ = [some (.val (.tup l)), some (.val (.tup [.int t, .int b])), some (.own (p.map .int)), x3, x4, x5, x6, x7, x8] ∧
      ((PthI l.length p a ∧ m + p.length = 22 ∧ pthF (nxP l t b) m p a = pathP l t b) ∨ (m = 0 ∧ p = pathP l t b ∧ p.getLast? = some a ∧ a ∈ p.dropLast ∧ 0 ≤ a ∧ a < l.length)),
    ⟨21, rfl, [0], 0, none, none, none, none, none, none, rfl, .inl ⟨pthI0 hr, rfl, rfl⟩⟩, ?_⟩
  rintro m ρ M' ⟨rfl, p, a, x3, x4, x5, x6, x7, x8, rfl, hP⟩
  obtain ⟨hla, a0, a1⟩ : p.getLast? = some a ∧ 0 ≤ a ∧ a < l.length := by
    rcases hP with ⟨hI, _⟩ | ⟨_, _, h1, _, h2⟩
    · exact ⟨hI.la, hI.rg a hI.mem⟩
    · exact ⟨h1, h2⟩
  obtain ⟨d, hd, hdm, hk⟩ := hr.at a0 a1
  have hpos : p ≠ [] := by intro z; rw [z] at hla; cases hla
  have hx : nxP l t b a = goalD d t b := by unfold nxP; rw [hd]; rfl
  have fin : p = pathP l t b → ∃ M2, MLe M2 M' ∧ q (.tup (p.map .int)) M2 := fun z => ⟨M', MLe.refl M', z ▸ hq⟩
  have e1 : ∀ (w : PWi), Ev (dOp fIx (dOwn 2) (dNeg (dC (.int 1)))) w [some (.val (.tup l)), some (.val (.tup [.int t, .int b])), some (.own (p.map .int)), x3, x4, x5, x6, x7, x8] M' (.int a) := fun w => ixL_ev (ev_own rfl) (ev_neg ev_c) (at_lastD hla)
  have e2 : ∀ (w : PWi), Ev (dOp fIx (dVar 0) (dOp fIx (dOwn 2) (dNeg (dC (.int 1))))) w [some (.val (.tup l)), some (.val (.tup [.int t, .int b])), some (.own (p.map .int)), x3, x4, x5, x6, x7, x8] M' d := fun w => ixT_ev (ev_var rfl) (e1 w) hd
  have e3 : ∀ (w : PWi), Ev (dMtL fIdxI (dOwn 2) (dOp fIx (dOwn 2) (dNeg (dC (.int 1))))) w [some (.val (.tup l)), some (.val (.tup [.int t, .int b])), some (.own (p.map .int)), x3, x4, x5, x6, x7, x8] M' (.int ((p.idxOf a : Nat) : Int)) := fun w q hq =>
    ⟨⟨_, rfl⟩, e1 w _ ⟨p, intsOf_mp p, List.mem_of_getLast? hla, hq⟩⟩
  have e4 : ∀ (w : PWi), EvT (dTst (dOp fEq (dMtL fIdxI (dOwn 2) (dOp fIx (dOwn 2) (dNeg (dC (.int 1))))) (dOp fSub (dB1 fLen (dOwn 2)) (dC (.int 1))))) w [some (.val (.tup l)), some (.val (.tup [.int t, .int b])), some (.own (p.map .int)), x3, x4, x5, x6, x7, x8] M' (decide (((p.idxOf a : Nat) : Int) = (p.map D.int).length - 1)) := fun w =>
    evt (ev_op (e3 w) (ev_op (ev_b1 (ev_own rfl) o1_lenL) ev_c o2_sub) o2_eqI)
  have e5 : ∀ (w : PWi), EvT (dTst (dOp fEq (dOp fIx (dOp fIx (dVar 0) (dOp fIx (dOwn 2) (dNeg (dC (.int 1))))) (dC (.int 0))) (dC (.str "look")))) w [some (.val (.tup l)), some (.val (.tup [.int t, .int b])), some (.own (p.map .int)), x3, x4, x5, x6, x7, x8] M' (decide (sortS d = "look")) := fun w =>
    evt (ev_is hk (by decide +kernel) (e2 w))
  rw [List.length_map] at e4
  refine evt_and (e5 _) (fun _ => e4 _) rfl _ ?_
  obtain ⟨h1, h2⟩ := sort_look (t := t) (b := b) hk
  rcases hP with ⟨hI, hm, hF⟩ | ⟨rfl, hpF, _, hdl, _⟩
  · have hpl := hI.len
    have h20 := hr.len
    obtain ⟨m, rfl⟩ : ∃ k, m = k + 1 := ⟨m - 1, by omega⟩
    have eF : (match nxP l t b a with | none => p | some g => if g ∈ p then p ++ [g] else pthF (nxP l t b) m (p ++ [g]) g) = pathP l t b := hF
    rw [decide_eq_true (idx_last hI.nd hI.la), Bool.and_true]
    by_cases c : sortS d = "look"
    · rw [decide_eq_true c]
      refine itT rfl ?_
      obtain ⟨g, hg, g0, g1⟩ := h1 c
      rw [hx, hg] at eF
      have eF : (if g ∈ p then p ++ [g] else pthF (nxP l t b) m (p ++ [g]) g) = pathP l t b := eF
      cases hk with
      | tell s hs => exact absurd (show ("tell" : Str) = "look" from c) (by decide +kernel)
      | look hf es gs h0 ha he hl hgs hn =>
        refine sqAsg (e2 _) ?_
        refine ⟨rfl, ?_⟩
        refine ⟨⟨by omega, by omega, t0, t1, b0, b1⟩, fun dd hdd => ?_⟩
        have nb := near_bounds (s := 2 * hf * b) (Int.mul_pos (by omega) b0) t
        obtain ⟨u, v, gg, es1, u0, v0, g0', ex, ey, ux, vy⟩ := spd_parts nb.1 b0
        rw [es1] at hdd
        subst hdd
        refine ⟨rfl, ?_⟩
        refine ⟨trivial, ?_⟩
        refine ⟨es, rfl, ha, ⟨by omega, fun e hm => by have := he e hm; omega, v0, Int.le_trans vy (Int.le_trans b1 (by decide))⟩, ?_⟩
        have e1 : cellI es u v = cellI es (near (2 * hf * b) t) b := by
          rw [← cellI_mul g0' es u v, ← ex, ← ey]
        rw [goal_look] at hg
        rw [e1]
        by_cases cg : g ∈ p
        · rw [if_pos cg] at eF
          refine ⟨_, atI_map hg, by rw [List.length_map]; omega, 0, by omega, rfl, p ++ [g], g, _, _, _, _, _, _, by rw [List.map_append]; rfl, .inr ⟨rfl, eF, by simp, by rw [List.dropLast_concat]; exact cg, g0, by omega⟩⟩
        · rw [if_neg cg] at eF
          refine ⟨_, atI_map hg, by rw [List.length_map]; omega, m, by omega, rfl, p ++ [g], g, _, _, _, _, _, _, by rw [List.map_append]; rfl, ?_⟩
          exact .inl ⟨hI.app cg g0 (by omega), by rw [List.length_append]; show m + (p.length + 1) = 22; omega, eF⟩
    · rw [decide_eq_false c]
      refine itF rfl (fin ?_)
      rw [hx, (h2 c).1] at eF
      exact eF
  · have := idx_first hdl
    rw [decide_eq_false (show ¬ ((p.idxOf a : Nat) : Int) = (p.length : Int) - 1 by omega), Bool.and_false]
    exact itF rfl (fin hpF)
end Px
set_option Elab.async false
set_option linter.all false
set_option maxRecDepth 100000
namespace Px
open PySem PySem.Spec PyProof.Rows L2
end Px
set_option Elab.async false
set_option linter.all false
set_option maxRecDepth 100000
set_option exponentiation.threshold 3000
namespace Px
open PySem PySem.Spec PyProof.Rows L2
theorem lcmW_of {C : Cl} {ds : List D} {M : Mm} {q : PQ} {e : PX} (h : sp__law_lcm C ds M q e) : sp__law_lcmW C ds M q e := by
  obtain ⟨d, rfl, ns, hd, hn, hq⟩ := ar1_of h
  refine ⟨ns, hd, ⟨by have := hn.1; omega, fun n z => ?_⟩, hq⟩
  have := hn.2 n z
  omega
theorem hvL_rg {l : List D} (h : RowsOk l) : ∀ k ∈ hvL l, 1 ≤ k ∧ k ≤ 1000 := by
  intro k hk
  obtain ⟨d, hd, e⟩ := List.mem_filterMap.mp hk
  have hK := rowK (h.row d hd)
  cases hK with
  | tell s hs => cases e
  | look hf es gs h0 ha he hl hg hn =>
    have e : (if ("look" : Str) = "look" then some hf else none) = some k := e
    rw [if_pos rfl] at e
    cases e
    exact h0
theorem filtI (l : List D) : l.filterMap (fun d => (halfOf d).map D.int) = (hvL l).map D.int := by
  unfold hvL
  rw [List.map_filterMap]
theorem hvL_le (l : List D) : (hvL l).length ≤ l.length := List.length_filterMap_le ..
theorem hvL_wd {l : List D} (h : RowsOk l) : WdOk (hvL l) := ⟨by have := hvL_le l; have := h.len; omega, fun n hn => by have := hvL_rg h n hn; omega⟩
def wholeL (l : List D) : Int := lcmL (hvL l)
theorem ev_halves {l : List D} (h : RowsOk l) {w : PWi} {ρ : Rho} {M : Mm} {i j : Nat} (hi : gt ρ i = some (.val (.tup l))) (hw : okW ρ [j] = true) (hj : ∀ d, gt (st (uns ρ [j]) j (.val d)) j = some (.val d)) :
    EvA (dComp [j] (iA (dVar i)) (gNm j) (dTst (dOp fEq (dOp fIx (dVar j) (dC (.int 0))) (dC (.str "look")))) (dOp fIx (dVar j) (dC (.int 1)))) w ρ M ((hvL l).map .int) := by
  intro q hq
  have hlen := h.len
  refine ⟨hw, ?_⟩
  refine ev_var hi _ ?_
  refine compR_fm (fun d => (halfOf d).map D.int) l [] (fun y hy kt kf hk => half_step (h.row y hy) (i := j) (hj y) ?_) (by show 0 + l.length ≤ 1000000; omega) ?_
  · cases e : halfOf y with
    | none => rw [e] at hk; exact hk
    | some k => rw [e] at hk; exact hk
  · rw [List.nil_append, filtI]
    exact hq
def sp__law_whole (C : Cl) : PSp := fun ds M q _ => ar1 ds fun d => ∃ l, d = .tup l ∧ RowsOk l ∧ q (.int (wholeL l)) M
def rd__law_whole (C : Cl) : PTS := (dRet (dCall (sp__law_lcmW C) [] (dCons (dL (dComp [1] (iA (dVar 0)) (gNm 1) (dTst (dOp fEq (dOp fIx (dVar 1) (dC (.int 0))) (dC (.str "look")))) (dOp fIx (dVar 1) (dC (.int 1))))) dNil)))
theorem sh__law_whole (C : Cl) : Shows (sp__law_whole C) 2 (rd__law_whole C) := by
  intro ds M q e h
  obtain ⟨d, rfl, l, rfl, hr, hq⟩ := ar1_of h
  exact ret_ev (ρ := [some (.val (.tup l)), none]) (ev_call (v := .int (wholeL l)) (eva_cons (ev_lc (ev_halves hr (i := 0) (j := 1) rfl rfl fun d => rfl)) eva_nil) fun q e h => ⟨hvL l, .inl rfl, hvL_wd hr, fun d hd => hd ▸ h⟩) ⟨M, MLe.refl M, hq⟩
end Px
set_option Elab.async false
set_option linter.all false
set_option maxRecDepth 100000
namespace Px
open PySem PySem.Spec PyProof.Rows L2
section
variable {X : Cx} {pos : Pos}
end
section
variable {X : Cx} {W : WX} {pe : PTE} {pos : Pos}
end
end Px
set_option Elab.async false
set_option linter.all false
set_option maxRecDepth 100000
namespace Px
open PySem PySem.Spec PyProof.Rows L2
abbrev PSpT := List D → Mm → (List D → D → Mm → Prop) → PX → Prop
structure PairOf (K : PySem.W.Frag) (g : Addr → Option HO) (H F : Hp) (O : Own) (p a : Addr) (v : V) (xs : List V) (ls : List D) (d : D) : Prop where
  hp : H p = some (.tup [.ref a, v])
  ha : H a = some (.lst xs)
  rl : RpL K F ls xs
  fa : F a = none
  oa : O a = none
  ga : g a = none
  rv : Rp K F d v
section
variable {X : Cx} {W : WX} {pe : PTE} {pl : PTA} {pos : Pos}
end
section
variable {P : Program} {w : World} {K : PySem.W.Frag} {mg : Str → Option Value} {base : Heap} {k : Nat} {f : Addr} {fd : FuncData} {ps N : List Str}
end
section
variable {X : Cx} {W : WX} {k n : Nat} {f : Addr} {fd : FuncData} {ps : List Str} {sp : PSpT} {x : Str} {p pos : Pos} {e : Expr} {es : List Expr} {pl : PTA} {pt : PWi → Rho → Mm → (List D → D → Mm → Prop) → Prop}
end
end Px
set_option Elab.async false
set_option linter.all false
set_option maxRecDepth 100000
namespace Px
open PySem PySem.Spec PyProof.Rows L2
mutual
def noL : D → Bool
  | .non | .bl _ | .int _ | .str _ => true
  | .tup l => noLL l
  | .obj _ _ l => noLL l
  | .lst _ | .dic _ _ | .raw _ | .scr _ | .clo _ _ _ _ _ | .fnc _ _ _ _ | .exv _ _ _ _ _ => false
def noLL : List D → Bool
  | [] => true
  | d :: r => noL d && noLL r
end
section
variable {K : PySem.W.Frag} {F F2 : Hp}
mutual
theorem Rp.noL (e : ∀ a o, F a = some o → (∀ xs, o ≠ .lst xs) → F2 a = some o) : ∀ (d : D) (v : V), Px.noL d = true → Rp K F d v → Rp K F2 d v
  | .non, _, _, h => h
  | .bl _, _, _, h => h
  | .int _, _, _, h => h
  | .str _, _, _, h => h
  | .tup l, _, n, ⟨a, xs, e1, s, r⟩ => ⟨a, xs, e1, by
      rcases s with (s | ⟨o, s⟩) | s
      · exact .inl (.inl (e a _ s fun _ z => by cases z))
      · exact .inl (.inr ⟨o, e a _ s fun _ z => by cases z⟩)
      · exact .inr s, RpL.noL e l xs n r⟩
  | .obj _ _ l, _, n, ⟨a, dx, fs, e1, s, k, r⟩ => ⟨a, dx, fs, e1, e a _ s (fun _ z => by cases z), k, RpL.noL e l _ n r⟩
  | .lst _, _, n, _ => by cases n
  | .dic _ _, _, n, _ => by cases n
  | .raw _, _, n, _ => by cases n
  | .scr _, _, n, _ => by cases n
  | .clo _ _ _ _ _, _, n, _ => by cases n
  | .fnc _ _ _ _, _, n, _ => by cases n
  | .exv _ _ _ _ _, _, n, _ => by cases n
theorem RpL.noL (e : ∀ a o, F a = some o → (∀ xs, o ≠ .lst xs) → F2 a = some o) : ∀ (l : List D) (xs : List V), noLL l = true → RpL K F l xs → RpL K F2 l xs
  | [], _, _, h => h
  | d :: l, _, n, ⟨x, r, e1, h, t⟩ => by
    have n : (Px.noL d && noLL l) = true := n
    rw [Bool.and_eq_true] at n
    exact ⟨x, r, e1, Rp.noL e d x n.1 h, RpL.noL e l r n.2 t⟩
end
end
def VwL (K : PySem.W.Frag) (σ : L2.St) (ρ : Rho) (F : Hp) : List D → List V → Prop
  | [], vs => vs = []
  | d :: ds, vs => ∃ v r, vs = v :: r ∧ Vw K σ ρ F d v ∧ VwL K σ ρ F ds r
theorem VwL.mono {K : PySem.W.Frag} {σ : L2.St} {ρ : Rho} {F F' : Hp} (e : Same F F') : ∀ {ds : List D} {vs : List V}, VwL K σ ρ F ds vs → VwL K σ ρ F' ds vs
  | [], _, h => h
  | _ :: _, _, ⟨v, r, e1, h, t⟩ => ⟨v, r, e1, h.mono e, VwL.mono e t⟩
theorem VwL.len {K : PySem.W.Frag} {σ : L2.St} {ρ : Rho} {F : Hp} : ∀ {ds : List D} {vs : List V}, VwL K σ ρ F ds vs → ds.length = vs.length
  | [], _, h => by rw [show _ = [] from h]; rfl
  | _ :: _, _, ⟨v, r, e1, h, t⟩ => by rw [e1, List.length_cons, List.length_cons, VwL.len t]
section
variable {X : Cx} {W : WX} {e : Expr} {es : List Expr} {pe : PTE} {pl : PTA}
end
section
variable {K : PySem.W.Frag} {g : Gh} {σ : L2.St} {H F : Hp} {ρ : Rho} {M : Mm} {O : Own} {a b dx : Addr} {C : Addr}
end
section
variable {X : Cx} {W : WX} {k n : Nat} {f C : Addr} {fd : FuncData} {ps : List Str} {sp : PSp} {x : Str} {p pos : Pos} {e : Expr} {es : List Expr} {pl : PTA}
end
end Px
set_option Elab.async false
set_option linter.all false
set_option maxRecDepth 100000
namespace Px
open PySem PySem.Spec PyProof.Rows PySem.W PySem.Calls PySem.HandSPX
section
variable {M : Model} {A : Around} {E : Value → Shared → Prop} {h : Heap} {g : Array GenState} {d : Drawn} {t : Nat} {os : OsState}
variable {nm q : Str} {C N : Addr} {bs bm bmB : List Value} {hdct : Bool} {sn : List Str} {sub : List Value} {ab : Bool} {col : Option Bool} {dd : Option Addr} {k0 k1 k2 k3 k5 : Option Value} {B newId initId : String}
end
section
variable {prog : Program} {w : World} {A : Around} {E : Value → Shared → Prop} {R : Result → Shared → Prop} {h : Heap} {g : Array GenState} {d : Drawn} {t : Nat} {os : OsState}
variable {nm q : Str} {C N : Addr} {bs bm bmB : List Value} {hdct : Bool} {sn : List Str} {sub : List Value} {ab : Bool} {col : Option Bool} {dd : Option Addr} {k0 k1 k2 k3 k5 : Option Value} {B newId initId : String}
end
def KwI (K : Frag) (fI : Addr) (x : Str) : Prop := ∀ (oc : Value) (od : Option Addr) (fd : FuncData) (osl : Array (Option Value)), K.lookup fI = some ⟨oc, od, .func fd, osl⟩ → ∀ (s : Shared) (e u : Value), BindsTo s fd ⟨[e], [(x, u)]⟩ [("self", e), (x, u)]
section
variable {prog : Program} {w : World} {A : Around} {R : Result → Shared → Prop} {K : Frag} {C fI e t0 : Addr} {u : Value} {x f : Str} {mg mb : Str → Option Value} {s : Shared} {ag : Args}
end
section
open L2
variable {X : Cx} {p pos : Pos} {e : Expr} {te : TE}
end
end Px
namespace Px
open PySem PySem.Spec PyProof.Rows L2
structure ExkTxt (P : Program) (K : PySem.W.Frag) (mg : Str → Option Value) (x : Str) (C : Addr) (f px : Str) : Prop where
  g : mg x = some (.ref C)
  s : mg "super" = none
  o : L2.OexC K C
  i : ∃ fI : Addr, InitA P K C fI px f ∧ PySem.W.findIn K (.ref C) "__init__" = some (some (.ref fI)) ∧ PySem.W.typeIn K (.ref fI) = some (.type "function") ∧ KwI K fI px
section
variable {X : Cx} {W : WX} {k : Nat} {C : Addr} {x f px : Str} {p pos : Pos} {e : Expr} {pe : PTE} {pl : PTA} {kws : List Keyword}
end
end Px
set_option Elab.async false
set_option linter.all false
set_option maxRecDepth 100000
namespace Px
open PySem PySem.Spec PyProof.Rows L2
section
variable {X : Cx} {W : WX} {a b : Expr} {pa pb : PTE} {pos : Pos}
end
end Px
set_option Elab.async false
set_option linter.all false
set_option maxRecDepth 100000
namespace Px
open PySem PySem.Spec PyProof.Rows L2
section
variable {X : Cx} {W : WX} {a o e : Expr} {pa po pe : PTE} {p pos apos : Pos}
end
end Px
set_option Elab.async false
set_option linter.all false
set_option maxRecDepth 100000
namespace GQ
open PySem PySem.SeqAt
open AutoSeq1 (wpAny_loadPart')
open MeetsSeq MeetsSeq2 MeetsSeq3 SeqRoads2
section
variable {prog : Program} {w : World} {A : Around} {R : Result → Shared → Prop}
end
section
variable {prog : Program} {w : World} {A : Around} {E : Value → Shared → Prop} {s : Shared}
end
end GQ
namespace Px
open PySem PySem.Spec PyProof.Rows L2
section
variable {X : Cx} {W : WX} {k n : Nat} {f C : Addr} {fd : FuncData} {ps : List Str} {sp : PSp} {pos : Pos} {a b : Expr} {pa pb : PTE}
end
end Px
set_option Elab.async false
set_option linter.all false
set_option maxRecDepth 100000
namespace Px
open PySem PySem.Spec PyProof.Rows L2
def fSortI : G1 := fun x k => ∃ ns : List Int, x = .lst (ns.map .int) ∧ ns.length ≤ 4096 ∧ ∀ ms : List Int, ms.Perm ns → ms.Pairwise (· ≤ ·) → k (ms.map .int)
section
variable {X : Cx} {W : WX} {a : Expr} {pa : PTE} {p pos : Pos}
end
end Px
set_option Elab.async false
set_option linter.all false
set_option maxRecDepth 100000
namespace Px
open PySem PySem.Spec PyProof.Rows L2
section
variable {X : Cx} {W : WX} {a b e : Expr} {pa pb pe : PTE} {pos p : Pos}
end
end Px
set_option Elab.async false
set_option linter.all false
set_option maxRecDepth 100000
namespace Px
open PySem PySem.Spec PyProof.Rows L2
section
variable {X : Cx} {W : WX} {pa : PTE}
end
end Px
set_option Elab.async false
set_option linter.all false
set_option maxRecDepth 100000
namespace Px
open PySem PySem.Spec PyProof.Rows L2
def ActB (P : Program) (w : World) (K : PySem.W.Frag) (mg : Str → Option Value) (base : Heap) (j : Nat) (outer0 : List Env) (H0 : Hp) (h0 : Heap) (c : PC) (cl : D) : Prop :=
  ∀ (CXg : CXT) (Ng : List Str) (qg : Str) (sg : Scope) (g : Addr) (cdg : Value) (A1 : Around) (outer1 : List Env) (s1 : Shared) (H1 : Hp) (Eg : XK) (a : Str),
    Un (frs outer0) [] H0 H1 h0 s1.heap → (∀ b ∈ frs outer1, b ∈ frs outer0 ∨ h0.get? b = none) → Room (j + 1) (A1.deeper (envOfC qg sg s1.heap.objs.size g cdg)) → A1.guards = some [] →
    Ng[0]? = some a → Vis sg a → (a == ("__debug__" : Str)) = false → (a == ("__classdict__" : Str)) = false →
    actIn (cxOf CXg P w K mg base Ng qg sg g cdg A1 outer1 s1 H1 Eg) a c cl
section
variable (P : Program) (w : World) (K : PySem.W.Frag) (mg : Str → Option Value) (base : Heap)
structure FnB (j l : Nat) (f : Addr) (fd : FuncData) (a qual : Str) (stm : Stmt) (N : List Str) (TT : PC → PC) : Prop where
  run : ∀ (A : Around) (outer : List Env) (s : Shared) (H : Hp) (u : Value) (cl : D) (v : V) (c : PC) (Q : VK) (E : XK), Room (l + 1) A → A.guards = some [] → Env0 P w K mg base A outer s H → BindsTo s fd ⟨[u], []⟩ [(a, u)] → RelV v u →
    ActB P w K mg base j outer H s.heap c cl → toSpC K TT c cl v H Q E →
    codeAny (model P w) A (.call (.ref f) ⟨[u], []⟩) (CR (L2.CX P w) outer P w H s Q E) s
end
section
variable {P : Program} {w : World} {K : PySem.W.Frag} {mg : Str → Option Value} {base : Heap} {j l : Nat}
end
section
variable {P : Program} {w : World} {K : PySem.W.Frag} {mg : Str → Option Value} {base : Heap} {j l : Nat} {f : Addr} {fd : FuncData} {N : List Str}
end
section
variable {X : Cx} {W : WX} {k l : Nat} {g c P : Addr} {fd : FuncData} {a x qual qn : Str} {stm : Stmt} {N : List Str} {TT : PC → PC} {prm : Arguments} {bd : Expr} {scp : Scope} {lp p pos : Pos} {pb : PTE}
end
end Px
set_option Elab.async false
set_option linter.all false
set_option maxRecDepth 100000
namespace Px
open PySem PySem.Spec PyProof.Rows L2
structure DefAt (X : Cx) (k : Nat) (f : Addr) (sp : PSp) : Prop where
  ex : ∃ (fd : FuncData) (ps : List Str) (n : Nat), FnG X.prog X.w X.K X.mg X.base k f fd ps (toSp X.K n sp) ∧ ps.length = n ∧ (∀ ds M q e, sp ds M q e → ds.length = n) ∧ PySem.W.keepIn X.K (.ref f) = true ∧ Binds X.K fd ps []
section
variable {X : Cx} {W : WX} {k i : Nat} {x : Str} {p pos : Pos} {e : Expr} {es : List Expr} {pl : PTA} {f : Addr}
end
end Px
set_option Elab.async false
set_option linter.all false
set_option maxRecDepth 100000
namespace Px
open PySem PySem.Spec PyProof.Rows L2
section
variable {X : Cx} {pins : List (Addr × Obj)} {σ : L2.St} {H : Hp} {s : Shared} {d : Addr} {o : Obj}
theorem frzN {xs : KEnts} (I : Inv X pins σ H s) (h : H d = some (.frz o (dkO d xs))) :
    (d == sysModules) = false ∧ s.heap.get? d = some o ∧ o.ExactDict ∧ ∃ (es : Array DictEntry) (ep : Nat), o.data = .dict es ep ∧ es.size = xs.length ∧ ∀ (i : Nat) (y : NestedKey × Addr × Value), xs[i]? = some y → ∃ en, es[i]? = some en ∧ en.key = .ref y.2.1 := by
  obtain ⟨hd, hx⟩ := I.hok d _ h
  obtain ⟨⟨h1, h2, h3, o', es, ep, h4, h5, h6, h7⟩, _, _⟩ := (show ObjOk X.prog X.w H s.heap d (dkO d xs) from hx)
  rw [hd] at h4
  cases h4
  have e := h7 X.w
  refine ⟨h1, hd, h5, es, ep, h6, ?_, fun i y hy => ?_⟩
  · have l := congrArg List.length e
    rw [List.length_map, Array.length_toList] at l
    exact l
  · refine ⟨⟨y.1.hash X.w, .ref y.2.1, y.2.2⟩, ?_, rfl⟩
    rw [← Array.getElem?_toList, e, List.getElem?_map, hy]
    rfl
end
def Itn (d : Addr) (o : Obj) (xs : KEnts) : It :=
  ⟨fun i H => H d = some (.frz o (dkO d xs)) ∧ i < xs.length, fun i H x H' => H' = H ∧ ∃ y, xs[i]? = some y ∧ x = .ref y.2.1, fun i H => H d = some (.frz o (dkO d xs)) ∧ xs.length ≤ i⟩
section
variable {P : Program} {w : World} {K : PySem.W.Frag} {tg : Expr} {d : Addr} {o : Obj} {es : Array DictEntry} {ep : Nat}
theorem turn_keysN {xs : KEnts} (it : Addr) (hod : o.data = .dict es ep) : Turn P w K tg (Itn d o xs) [it] it (fun i h => h.IsKeyIter it d i xs.length ep) where
  mem := by simp
  obj := fun i h st b hb => by
    have e : b = it := by simpa using hb
    subst e
    obtain ⟨oi, e, c, dd⟩ := st
    exact ⟨oi, e, fun v z => by rw [dd] at z; cases z⟩
  keep := fun i h h' st k => st.at fun oi e => k it (by simp) oi e
  item := by
    intro X hP hw hK hc i pins s σ H E I hf st hg
    subst hP hw hK
    obtain ⟨hd, hi⟩ := hg
    obtain ⟨f0, f1, f2, f3, f4, f5⟩ := hf it (by simp)
    obtain ⟨hs, hgd, hx, es', ep', hdt, hsz, ent⟩ := frzN I hd
    obtain ⟨rfl, rfl⟩ := dict_ep hod hdt
    obtain ⟨y, hy⟩ : ∃ p, xs[i]? = some p := ⟨xs[i], List.getElem?_eq_getElem hi⟩
    obtain ⟨en, hen, hkey⟩ := ent i y hy
    refine next_key_item st hgd hdt hsz hen fun h' st' sb => ?_
    have I1 : Inv X pins σ H { s with heap := h' } := I.turned (t' := s.toks) (fun b ob hb e => (sb.2 b hb).trans e) f0 f1 f3 f4 f5
    obtain ⟨oi, e, c, dd⟩ := id st'
    exact ⟨en.key, rfl, go_of (s := { s with heap := h' }) e c dd (by decide) ⟨.ref y.2.1, H, I1, hkey, ⟨rfl, y, hy, rfl⟩, st', fun b hb => (hf b hb).1⟩⟩
  done := by
    intro X hP hw hK hc i pins s σ H E I hf st hg
    subst hP hw hK
    obtain ⟨hd, hi⟩ := hg
    obtain ⟨f0, f1, f2, f3, f4, f5⟩ := hf it (by simp)
    obtain ⟨hs, hgd, hx, es', ep', hdt, hsz, ent⟩ := frzN I hd
    obtain ⟨rfl, rfl⟩ := dict_ep hod hdt
    exact next_key_end (I.ok.hd hc) st hgd hdt hsz hi fun h' eb => ⟨rfl, I.turned (t' := s.toks) (fun b ob hb e => eb b ob hb e) f0 f1 f3 f4 f5⟩
  self := fun A i s Q E st h => by
    refine wpAny_pyIter_slot st.typeIs F.slot_dict_keyiterator_iter (wpAny_call_entry F.slot_dict_keyiterator_iter st.typeIs F.entry_dict_keyiterator_iter ?_ (F.args_dict_keyiterator_iter_1 _))
    show wpAny _ _ (ret (.ref it)) _ _ s
    exact wpAny_pure ⟨_, rfl, "dict_keyiterator", _, st.typeIs, F.slot_dict_keyiterator_next.lookup, h⟩
end
def iKeysN (td : TE) : TI := fun σ H R => td σ H fun x H1 => ∃ d o xs, x = .ref d ∧ H1 d = some (.frz o (dkO d xs)) ∧ R (Itn d o xs) H1
section
variable {X : Cx} {W : WX} {tg e elt iter : Expr} {td : TE} {pos : Pos} {scope : Scope} {own : List (Str × Nat)}
theorem pi_keysN (he : PE X e td) : PI X tg e (iKeysN td) := by
  refine ⟨fun pins s σ H R I h => ?_⟩
  refine thn (he.run pins s σ H _ I h) fun u s1 ⟨x, H1, I1, rx, d, o, xs, ex, hd, q⟩ => ?_
  subst ex
  obtain rfl : u = Value.ref d := rx
  obtain ⟨hs, hgd, hx, es, ep, hdt, hsz, ent⟩ := frzN I1 hd
  refine iter_keys hs hgd hx hdt (pi_one (tk := s1.toks) I1 _ (turn_keysN _ hdt) ⟨_, Heap.get?_push_size _ rfl, rfl, ?_⟩ q)
  rw [hsz] <;> rfl
theorem drel_get {K : PySem.W.Frag} {F : Hp} : ∀ {kvs : List (D × D)} {xs : KEnts} {i : Nat} {y : NestedKey × Addr × Value}, DRel K F kvs xs → xs[i]? = some y → ∃ p, kvs[i]? = some p ∧ nkOf p.1 = some y.1 ∧ Rp K F p.1 (.ref y.2.1)
  | [], xs, i, y, h, e => by rw [show xs = [] from h] at e; simp at e
  | p :: r, _, 0, y, ⟨x, ys, v, rfl, e2, e3, e4, e5, e6, e7⟩, e => by
    simp only [List.getElem?_cons_zero, Option.some.injEq] at e
    subst e
    exact ⟨p, rfl, e2, e4⟩
  | p :: r, _, i + 1, y, ⟨x, ys, v, rfl, e2, e3, e4, e5, e6, e7⟩, e => by
    simp only [List.getElem?_cons_succ] at e ⊢
    exact drel_get e7 e
end
end Px
set_option Elab.async false
set_option linter.all false
set_option maxRecDepth 100000
namespace Px
open PySem PySem.Spec PyProof.Rows L2
section
variable {X : Cx} {W : WX} {pos : Pos} {keys : List (Option Expr)} {values : List Expr} {trs : List (TE × TE)}
end
end Px
set_option Elab.async false
set_option linter.all false
set_option maxRecDepth 100000
namespace Px
open PySem PySem.Spec PyProof.Rows L2
section
variable {prog : Program} {w : World} {A : Around} {E : Value → Shared → Prop}
def Pr2 (h : Heap) (ta : Addr) (a b : Int) : Prop := ∃ t1 t2, PyProof.Rows.IsTup h ta #[.int a t1, .int b t2]
theorem Pr2.keep {h h' : Heap} {ta : Addr} {a b : Int} (p : Pr2 h ta a b) (k : ∀ b o, h.get? b = some o → h'.get? b = some o) : Pr2 h' ta a b := by
  obtain ⟨t1, t2, o, e1, e2⟩ := p
  exact ⟨t1, t2, o, k _ _ e1, e2⟩
end
structure LamS1 (sc scope : Scope) (x c : Str) : Prop where
  kind : scope.kind = .function
  co : scope.isCoroutine = false
  gen : scope.isGenerator = false
  own : ∀ y ∈ scope.names, y.2 ≠ .cell
  xl : scope.names.lookup x = some .local
  cf : scope.names.lookup c = some .free
  free : ∀ y ∈ scope.names, y.2 = .free → sc.names.lookup y.1 = some .cell ∨ sc.names.lookup y.1 = some .free
theorem LamS1.has {X : Cx} {scope : Scope} {x c : Str} (L : LamS1 X.env.scope scope x c) (ok : X.Ok) : ∀ y ∈ scope.names, y.2 = .free → ∃ c, X.env.cells.lookup y.1 = some c := fun y hy e => by
  rcases L.free y hy e with k | k
  · exact ok.has _ (.inl k)
  · exact ok.has _ (.inr k)
section
variable {X : Cx} {pins : List (Addr × Obj)} {σ : L2.St} {H : Hp} {s : Shared} {f c' : Addr} {pm ctv : Value} {prm : Arguments} {scp : Scope} {x c : Str} {k1 k2 ic : Nat} {p1 p2 p3 p4 p5 p6 p7 p8 p9 : Pos}
end
end Px
set_option Elab.async false
set_option linter.all false
set_option maxRecDepth 100000
namespace Px
open PySem PySem.Spec PyProof.Rows L2
abbrev pD2 (p : Int × Int) : D := .tup [.int p.1, .int p.2]
section
variable {X : Cx} {W : WX} {y : Str} {p1 p2 p3 pos : Pos}
end
end Px
set_option Elab.async false
set_option linter.all false
set_option maxRecDepth 100000
namespace Px
open PySem PySem.Spec PyProof.Rows L2
section
variable {X : Cx} {W : WX} {c P L : Addr} {qn x cn y : Str} {prm : Arguments} {scp : Scope} {k1 k2 i ic : Nat} {lp pos p1 p2 p3 p4 p5 p6 p7 p8 p9 q1 q2 q3 q4 q5 : Pos}
end
end Px
set_option Elab.async false
set_option linter.all false
set_option maxRecDepth 100000
namespace Px
open PySem PySem.Spec PyProof.Rows L2
section
variable {X : Cx} {W : WX} {c e : Expr} {pt : PTT} {pl : PTA} {pos : Pos}
end
end Px
set_option Elab.async false
set_option linter.all false
set_option maxRecDepth 100000
namespace Px
open PySem PySem.Spec PyProof.Rows L2
section
variable {K : PySem.W.Frag} {g : Gh} {σ : L2.St} {H : Hp} {ρ : Rho} {M : Mm} {F : Hp} {O : Own} {p : Addr} {mo : Mo}
end
def asLs (d : D) (M : Mm) (f : Addr → List D → Prop) : Prop := match d with
  | .raw (.ref a) => match M a with | some (.lst l) => f a l | _ => False
  | _ => False
section
variable {X : Cx} {W : WX} {a b e i : Expr} {pa pb pe : PTE} {pl : PTA} {pos p : Pos}
def dGetLs (pa pb : PTE) : PTE := fun w ρ M q => pa w ρ M fun x M1 => pb w ρ M1 fun y M2 => asLs x M2 fun _ l => ∃ n d, y = .int n ∧ L2.atI l n = some d ∧ q d M2
def dSetLs (pv pb pa : PTE) : PTS := fun w P ρ M => pv w ρ M fun v M1 => pb w ρ M1 fun y M2 => pa w ρ M2 fun x M3 => asLs y M3 fun c l => ∃ n j, x = .int n ∧ ixN l.length n = some j ∧ P.nx ρ (updM M3 c (.lst (l.set j v)))
end
end Px
set_option Elab.async false
set_option linter.all false
set_option maxRecDepth 100000
namespace Px
open PySem PySem.Spec PyProof.Rows L2
section
variable {X : Cx} {W : WX} {pa : PTE} {pl : PTA}
end
abbrev pdP (p : Int × Int) : PyData := .tuple [.int p.1, .int p.2]
def ltP (p q : Int × Int) : Bool := decide (p.1 < q.1) || (!decide (q.1 < p.1) && decide (p.2 < q.2))
theorem dataLt_pdP (p q : Int × Int) : PySem.W.dataLt (pdP p) (pdP q) = ltP p q := by
  show (decide ((1:Int) < 1) || (!decide ((1:Int) < 1) && (decide (p.1 < q.1) || (!decide (q.1 < p.1) && (decide ((1:Int) < 1) || (!decide ((1:Int) < 1) && (decide (p.2 < q.2) || (!decide (q.2 < p.2) && (decide ((0:Int) < 0) || (!decide ((0:Int) < 0) && false)))))))))) = ltP p q
  unfold ltP
  simp
theorem minD_pdP : ∀ (ps : List (Int × Int)) (p : Int × Int), ∃ m ∈ p :: ps, PySem.W.minD (pdP p) (ps.map pdP) = pdP m ∧ ∀ q ∈ p :: ps, ltP q m = false
  | [], p => ⟨p, List.mem_cons_self, rfl, fun q hq => by
      rcases List.mem_cons.mp hq with rfl | h
      · unfold ltP; simp
      · exact nomatch h⟩
  | x :: ps, p => by
    have step : PySem.W.minD (pdP p) ((x :: ps).map pdP) = PySem.W.minD (pdP (if ltP x p then x else p)) (ps.map pdP) := by
      unfold PySem.W.minD
      rw [List.map_cons, List.foldl_cons]
      rw [show (PySem.W.dataLt (pdP x) (pdP p)) = ltP x p from dataLt_pdP x p]
      by_cases h : ltP x p = true
      · rw [if_pos h, if_pos h]
      · rw [if_neg h, if_neg h]
    obtain ⟨m, h1, h2, h3⟩ := minD_pdP ps (if ltP x p then x else p)
    refine ⟨m, ?_, step.trans h2, fun q hq => ?_⟩
    · rcases List.mem_cons.mp h1 with e | e
      · rw [e]; split
        · exact List.mem_cons_of_mem _ List.mem_cons_self
        · exact List.mem_cons_self
      · exact List.mem_cons_of_mem _ (List.mem_cons_of_mem _ e)
    · have h0 := h3 _ List.mem_cons_self
      have key : ∀ a b c : Int × Int, ltP a b = false → ltP b c = false → ltP a c = false := by
        intro a b c h1 h2
        unfold ltP at h1 h2 ⊢
        simp only [Bool.or_eq_false_iff, Bool.and_eq_false_iff, decide_eq_false_iff_not, Bool.not_eq_false', decide_eq_true_eq] at h1 h2 ⊢
        omega
      have asym : ∀ a b : Int × Int, ltP a b = true → ltP b a = false := by
        intro a b h1
        unfold ltP at h1 ⊢
        simp only [Bool.or_eq_false_iff, Bool.and_eq_false_iff, decide_eq_false_iff_not, Bool.not_eq_false', decide_eq_true_eq, Bool.or_eq_true, Bool.and_eq_true, Bool.not_eq_true', decide_eq_false_iff_not] at h1 ⊢
        omega
      rcases List.mem_cons.mp hq with rfl | hq
      · by_cases c : ltP x q = true
        · rw [if_pos c] at h0
          exact key _ _ _ (asym _ _ c) h0
        · rw [if_neg c] at h0
          exact h0
      · rcases List.mem_cons.mp hq with rfl | hq
        · by_cases c : ltP q p = true
          · rw [if_pos c] at h0; exact h0
          · rw [if_neg c] at h0
            exact key _ _ _ (by simpa using c) h0
        · exact h3 q (List.mem_cons_of_mem _ hq)
theorem depth_pdP : ∀ ps : List (Int × Int), PyData.depthAll (ps.map pdP) ≤ 2
  | [] => by show (0:Nat) ≤ 2; omega
  | p :: r => by
    have h := depth_pdP r
    show max (PyData.depth (pdP p)) (PyData.depthAll (r.map pdP)) ≤ 2
    have h2 : PyData.depth (pdP p) ≤ 2 := by show (1 + max 0 (max 0 0) : Nat) ≤ 2; decide
    exact Nat.max_le.mpr ⟨h2, h⟩
theorem alike_pdP (ps : List (Int × Int)) : PySem.W.AlikeAll (ps.map pdP) := by
  refine ⟨fun x hx y hy => ?_, fun x hx => ?_⟩
  · obtain ⟨p, _, rfl⟩ := List.mem_map.mp hx
    obtain ⟨q, _, rfl⟩ := List.mem_map.mp hy
    rfl
  · obtain ⟨p, _, rfl⟩ := List.mem_map.mp hx
    exact fun z => nomatch z
def rMinP (K : PySem.W.Frag) : List V → Hp → VK → Prop := fun vs H Q => ∃ (F : Hp) (a : Addr) (xs : List V) (ps : List (Int × Int)), Same F H ∧ vs = [V.ref a] ∧ SqL K H a xs ∧ RpL K F (ps.map pD2) xs ∧ ps ≠ [] ∧
  ∀ x p, p ∈ ps → (∀ q ∈ ps, ltP q p = false) → Rp K F (pD2 p) x → Q x H
section
variable {X : Cx} {pins : List (Addr × Obj)} {σ : L2.St} {H F : Hp} {s : Shared}
theorem pairs_read (I : Inv X pins σ H s) (sm : Same F H) : ∀ (ps : List (Int × Int)) (xs : List V) (its : List Value), RpL X.K F (ps.map pD2) xs → Vals xs its →
    ReadsAll s.heap its (ps.map pdP) [] ∧ ∀ (i : Nat) (v : Value), its[i]? = some v → ∃ x p, RelV x v ∧ p ∈ ps ∧ Rp X.K F (pD2 p) x ∧ Reads s.heap v (pdP p) []
  | [], xs, its, h, hv => by
    have e : xs = [] := h
    subst e
    cases hv
    exact ⟨.nil, fun i v e => by simp at e⟩
  | p :: ps, _, _, ⟨x, xs, rfl, e4, e7⟩, hv => by
    cases hv with
    | @cons _ v _ its rx rr =>
      obtain ⟨h1, h2⟩ := pairs_read I sm ps xs its e7 rr
      have hp : Reads s.heap v (pdP p) [] := by
        obtain ⟨a, vs, eq, hs, hr⟩ := id e4
        cases eq
        obtain ⟨v1, r1, ev, hv1, v2, r2, ev2, hv2, hv3⟩ := hr
        cases (show v1 = .int p.1 from hv1)
        cases (show v2 = .int p.2 from hv2)
        cases (show r2 = [] from hv3)
        subst ev2
        subst ev
        obtain ⟨its, rv, pl, _⟩ := I.tuple (same_t sm hs)
        cases rv with
        | cons q1 q2 =>
          cases q2 with
          | cons q3 q4 =>
            cases q4
            obtain ⟨t1, rfl⟩ := (show ∃ t, _ = Value.int p.1 t from q1)
            obtain ⟨t2, rfl⟩ := (show ∃ t, _ = Value.int p.2 t from q3)
            obtain rfl : v = Value.ref a := rx
            obtain ⟨o, ho, hc, n, hd⟩ := pl
            exact Reads.tuple (as := []) ho hc hd (.cons (.int _ _) (.cons (.int _ _) .nil))
      refine ⟨ReadsAll.cons (as := []) (bs := []) hp h1, fun i w e => ?_⟩
      cases i with
      | zero =>
        have e := Option.some.inj (show some v = some w from e)
        subst e
        exact ⟨x, p, rx, List.mem_cons_self, e4, hp⟩
      | succ i =>
        obtain ⟨x', p', a1, a2, a3, a4⟩ := h2 i w (by simpa using e)
        exact ⟨x', p', a1, List.mem_cons_of_mem _ a2, a3, a4⟩
theorem cr_minP (hc : X.calm = true) (hu : X.A.units + 9 < cLine) : CallR X (.builtin "min") (rMinP X.K) := by
  intro pins s σ H vs us Q I r h
  obtain ⟨F, a, xs, ps, sm, e, hs, ht, hne, q⟩ := h
  subst e
  obtain ⟨its, rv, hl, hz⟩ := I.list hs
  obtain ⟨u, rfl, ru⟩ := vals1 r
  obtain rfl : u = Value.ref a := ru
  obtain ⟨p, pr, rfl⟩ : ∃ p pr, ps = p :: pr := by
    cases ps with
    | nil => exact absurd rfl hne
    | cons p pr => exact ⟨p, pr, rfl⟩
  obtain ⟨h1, h2⟩ := pairs_read I sm (p :: pr) xs its ht rv
  obtain ⟨m, m1, m2, m3⟩ := minD_pdP pr p
  have hd := depth_pdP (p :: pr)
  refine PySem.W.min_list_data (x := pdP p) (xs := pr.map pdP) (as := []) (I.ok.hd hc) hl.isList (by rw [← List.map_cons]; exact h1) (by rw [← List.map_cons]; exact alike_pdP (p :: pr)) (by rw [← List.map_cons]; omega) fun i v h' tk bs hv hr hk => ?_
  obtain ⟨x, p', r1, r2, r3, r4⟩ := h2 i v (by simpa using hv)
  rw [m2] at hr
  have eu := (Reads.unique (PyProof.Rows.Reads.keeps hk r4) _ _ hr).1
  have ep : p' = m := by
    injection eu with eu
    injection eu with a1 a2
    injection a2 with a2 _
    injection a1 with a1
    injection a2 with a2
    exact Prod.ext a1 a2
  subst ep
  exact ⟨x, H, I.kept hk, r1, q x p' r2 m3 r3⟩
end
def fMinP : F1 := fun x k => ∃ ps : List (Int × Int), x = .lst (ps.map pD2) ∧ ps ≠ [] ∧ ∀ p ∈ ps, (∀ q ∈ ps, ltP q p = false) → k (pD2 p)
theorem bf_minP {K : PySem.W.Frag} : BF1 K (rMinP K) fMinP := by
  intro g σ H ρ M F O x v k Q A rx h c
  obtain ⟨ps, rfl, hne, hq⟩ := h
  obtain ⟨a, xs, e, hp, rl⟩ := rx.lst A
  exact ⟨F, a, xs, ps, A.sub, by rw [e], .inl (.inl hp), rl, hne, fun x p h1 h2 h3 => c (pD2 p) _ H F O A (Same.refl F) h3 (hq p h1 h2)⟩
section
variable {X : Cx} {W : WX} {a : Expr} {pa : PTE} {p pos : Pos}
theorem de_minP (hu : X.A.units + 9 < cLine) (hc : X.calm = true) (hg : Gl X "min") (hm : X.mg "min" = none) (ha : DO X W a pa) (he : starEach [a] X.env = (false, eval a X.env) :: starEach [] X.env := by rfl) (hpl : (backTo pos (starEach [] X.env)).any (·.1) = false := by rfl) :
    DE X W (.Call (.Name "min" p) [a] [] pos) (dB1 fMinP pa) := de_b1 (cr_minP hc hu) bf_minP hg hm (by decide +kernel) ha (by decide) (by decide) he hpl
end
end Px
set_option Elab.async false
set_option linter.all false
set_option maxRecDepth 100000
namespace Px
open PySem PySem.Spec PyProof.Rows L2
def tI (k : Int) : Int := if k % 2 = 0 then k / 2 else k
def bI (k : Int) : Int := if k % 2 = 0 then 1 else 2
abbrev spD (k : Int) : D := .tup [.int (tI k), .int (bI k)]
theorem bI_rg (k : Int) : 1 ≤ bI k ∧ bI k ≤ 2 := by unfold bI; split <;> decide
theorem tI_rg {k W : Int} (h0 : 0 ≤ k) (h1 : k ≤ 2 * W) : 0 ≤ tI k ∧ tI k ≤ 2 * W := by unfold tI; split <;> omega
theorem spD_even (k : Int) : spD (2 * k) = .tup [.int k, .int 1] := by
  unfold spD tI bI
  rw [if_pos (by omega), if_pos (by omega)]
  have : 2 * k / 2 = k := by omega
  rw [this]
theorem spD_odd (k : Int) : spD (2 * k + 1) = .tup [.int (2 * k + 1), .int 2] := by
  unfold spD tI bI
  rw [if_neg (by omega), if_neg (by omega)]
def sp_speed_in (C : Cl) : PSp := fun ds M q _ => ar1 ds fun d => asI d fun k => 0 ≤ k ∧ q (spD k) M
def rd_speed_in (C : Cl) : PTS := (dRet (dIf (dTst (dOp fEq (dOp fMod (dVar 0) (dC (.int 2))) (dC (.int 0)))) (dTup (dCons (dOp fDiv (dVar 0) (dC (.int 2))) (dCons (dC (.int 1)) dNil))) (dTup (dCons (dVar 0) (dCons (dC (.int 2)) dNil)))))
theorem sh_speed_in (C : Cl) : Shows (sp_speed_in C) 1 (rd_speed_in C) := by
  intro ds M q e h
  obtain ⟨d, rfl, h⟩ := ar1_of h
  obtain ⟨k, rfl, k0, hq⟩ := asI_of h
  have hm : Ev (dOp fEq (dOp fMod (dVar 0) (dC (.int 2))) (dC (.int 0))) (fun cls fs x M' => ∃ M2, MLe M2 M' ∧ e cls fs M2) (startR 1 [.int k]) M (.bl (decide (k % 2 = 0))) := ev_op (ev_op (ev_var rfl) ev_c (o2_mod (by decide))) ev_c o2_eqI
  refine ret_ev (d := spD k) (ev_ife (evt hm) (fun c => ?_) (fun c => ?_)) ⟨M, MLe.refl M, hq⟩
  · have c := of_decide_eq_true c
    have : spD k = .tup [.int (k / 2), .int 1] := by unfold spD tI bI; rw [if_pos c, if_pos c]
    rw [this]
    exact ev_tup (eva_cons (ev_op (ev_var rfl) ev_c (o2_div ⟨by decide, by decide⟩)) (eva_cons ev_c eva_nil)) (by show 2 ≤ 1000000; decide)
  · have c := of_decide_eq_false c
    have : spD k = .tup [.int k, .int 2] := by unfold spD tI bI; rw [if_neg c, if_neg c]
    rw [this]
    exact ev_tup (eva_cons (ev_var rfl) (eva_cons ev_c eva_nil)) (by show 2 ≤ 1000000; decide)
def sp_need_small (C : Cl) : PSp := fun ds M q _ => ar1 ds fun d => ∃ ns, isSeq d ns ∧ WdOk ns ∧ lcmL ns ≤ 5040 ∧ q (.int (lcmL ns)) M
def rd_need_small (C : Cl) : PTS := (dSeq (dSet 1 (dCall (sp_multipleW C) [] (dCons (dVar 0) dNil)))
    (dSeq (dIfS (dTst (dOp fGt (dVar 1) (dC (.int 5040)))) (dRaiseA (.ref C.TooGreat) "most" (dC (.int 5040))) dNext)
    (dRet (dVar 1))))
theorem sh_need_small (C : Cl) : Shows (sp_need_small C) 2 (rd_need_small C) := by
  intro ds M q e h
  obtain ⟨d, rfl, ns, hd, hw, hs, hq⟩ := ar1_of h
  refine ⟨ns, hd, hw, ?_⟩
  refine itF (decide_eq_false (by omega)) ?_
  exact ⟨M, MLe.refl M, hq⟩
abbrev prH (k : Int) : Int × Int := (bI k, tI k)
def isLst (ks : List Int) (m : Int) : Bool := ks.all fun k => !ltP (prH k) (prH m)
def lstK (ks : List Int) : D := match ks.find? (isLst ks) with
  | some m => spD m
  | none => .non
theorem ltP_anti {p q : Int × Int} (h1 : ltP p q = false) (h2 : ltP q p = false) : p = q := by
  unfold ltP at h1 h2
  simp only [Bool.or_eq_false_iff, Bool.and_eq_false_iff, decide_eq_false_iff_not, Bool.not_eq_false', decide_eq_true_eq] at h1 h2
  exact Prod.ext (by omega) (by omega)
theorem lstK_is {ks : List Int} {m : Int} (hm : m ∈ ks) (h : ∀ k ∈ ks, ltP (prH k) (prH m) = false) : lstK ks = spD m := by
  have hl : isLst ks m = true := by
    unfold isLst
    rw [List.all_eq_true]
    intro k hk
    rw [h k hk]; rfl
  unfold lstK
  cases e : ks.find? (isLst ks) with
  | none => exact absurd hl (by have := List.find?_eq_none.mp e m hm; simpa using this)
  | some m' =>
    have h1 := List.find?_some e
    have h2 := List.mem_of_find?_eq_some e
    unfold isLst at h1
    rw [List.all_eq_true] at h1
    have h3 := h1 m hm
    have e2 := ltP_anti (p := prH m) (q := prH m') (by simpa using h3) (h m' h2)
    have ea : bI m = bI m' := congrArg Prod.fst e2
    have eb : tI m = tI m' := congrArg Prod.snd e2
    show spD m' = spD m
    unfold spD
    rw [ea, eb]
def sp_simplest_of (C : Cl) : PSp := fun ds M q _ => ar1 ds fun d => ∃ ks : List Int, d = .lst (ks.map .int) ∧ ks ≠ [] ∧ ks.length ≤ 100000 ∧ (∀ k ∈ ks, 0 ≤ k) ∧ q (lstK ks) M
def rd_simplest_of (C : Cl) : PTS := (dSeq (dAsg (dB1 fMinP (dL (dComp [3] (iA (dVar 0)) (gNm 3) dYes (dTup (dCons (dOp fIx (dCall (sp_speed_in C) [] (dCons (dVar 3) dNil)) (dC (.int 1))) (dCons (dOp fIx (dCall (sp_speed_in C) [] (dCons (dVar 3) dNil)) (dC (.int 0))) dNil)))))) (gTp 2 (gsCons (gNm 1) (gsCons (gNm 2) gsNil))))
    (dRet (dTup (dCons (dVar 2) (dCons (dVar 1) dNil)))))
theorem sh_simplest_of (C : Cl) : Shows (sp_simplest_of C) 4 (rd_simplest_of C) := by
  intro ds M q e h
  obtain ⟨d, rfl, ks, rfl, hne, hl, hk, hq⟩ := ar1_of h
  refine ⟨rfl, ?_⟩
  refine compR_on (c := D.int) (f := fun k => pD2 (prH k)) ks (fun k hk' κ kf hκ => ?_) (by omega) ?_
  · exact ⟨hk k hk', _, at1, hk k hk', _, at0, by show 2 ≤ 1000000; decide, hκ⟩
  · refine ⟨ks.map prH, by rw [List.map_map]; rfl, by simpa using hne, fun p hp hmin => ?_⟩
    obtain ⟨m, hm, rfl⟩ := List.mem_map.mp hp
    have e1 := lstK_is hm fun k hk => hmin _ (List.mem_map.mpr ⟨k, hk, rfl⟩)
    rw [e1] at hq
    exact ⟨rfl, by show 2 ≤ 1000000; decide, M, MLe.refl M, hq⟩
end Px
set_option Elab.async false
set_option linter.all false
set_option maxRecDepth 100000
namespace Px
open PySem PySem.Spec PyProof.Rows L2
structure PrO (l : List D) : Prop where
  rows : RowsOk l
  rw : ∀ d ∈ l, RwG d
def ixs (n : Nat) : List Int := (List.range n).map fun i : Nat => (i : Int)
theorem ixs_len (n : Nat) : (ixs n).length = n := by unfold ixs; rw [List.length_map, List.length_range]
theorem rngD0 (n : Nat) : rngD 0 n = (ixs n).map D.int := by
  unfold rngD ixs
  rw [List.map_map]
  refine List.map_congr_left fun i _ => ?_
  show D.int (0 + (i : Int)) = D.int i
  rw [Int.zero_add]
theorem ixs_mem {n : Nat} {k : Int} (h : k ∈ ixs n) : 0 ≤ k ∧ k < n := by
  obtain ⟨i, hi, rfl⟩ := List.mem_map.mp h
  have := List.mem_range.mp hi
  omega
theorem hvs_mem {l : List D} (h : RowsOk l) (k : Int) : k ∈ hvs l ↔ k ∈ hvL l := ascL_mem (fun k hk => by have := hvL_rg h k hk; omega) k
theorem hvs_len {l : List D} (h : RowsOk l) : (hvs l).length ≤ 20 :=
  Nat.le_trans (asc_len (ascL_asc _) fun k hk => (hvs_mem h k).mp hk) (Nat.le_trans (hvL_le l) h.len)
def sp__law_spots (C : Cl) : PSp := fun ds M q _ => ar1 ds fun d => asI d fun W => (0 ≤ W ∧ W ≤ 1000) ∧ q (.lst ((ixs (2 * W + 1).toNat).map spD)) M
def rd__law_spots (C : Cl) : PTS := (dSeq (dSet 1 (dL (dLst (dCons (dTup (dCons (dC (.int 0)) (dCons (dC (.int 1)) dNil))) dNil))))
    (dSeq (dFor (iR1 (dVar 0)) (gNm 2) (dSet 1 (dOp fAdd (dVar 1) (dL (dLst (dCons (dTup (dCons (dOp fAdd (dOp fMul (dC (.int 2)) (dVar 2)) (dC (.int 1))) (dCons (dC (.int 2)) dNil))) (dCons (dTup (dCons (dOp fAdd (dVar 2) (dC (.int 1))) (dCons (dC (.int 1)) dNil))) dNil)))))))
    (dRet (dVar 1))))
theorem ixs_succ (n : Nat) : ixs (n + 1) = ixs n ++ [(n : Int)] := by
  unfold ixs
  rw [List.range_succ, List.map_append]
  rfl
theorem ixs_two (i : Nat) : ixs (2 * i + 1) ++ [(2 * (i : Int) + 1), 2 * ((i : Int) + 1)] = ixs (2 * (i + 1) + 1) := by
  have e : ixs (2 * (i + 1) + 1) = ixs (2 * i + 1 + 1 + 1) := rfl
  have e1 : ((2 * i + 1 : Nat) : Int) = 2 * (i : Int) + 1 := by omega
  have e2 : ((2 * i + 1 + 1 : Nat) : Int) = 2 * ((i : Int) + 1) := by omega
  rw [e, ixs_succ (2 * i + 1 + 1), ixs_succ (2 * i + 1), e1, e2, List.append_assoc]
  rfl
theorem sh__law_spots (C : Cl) : Shows (sp__law_spots C) 3 (rd__law_spots C) := by
  intro ds M q e h
  obtain ⟨d, rfl, h⟩ := ar1_of h
  obtain ⟨W, rfl, ⟨w0, w1⟩, hq⟩ := asI_of h
  refine ⟨by decide, by decide, ?_⟩
  refine ⟨by omega, by omega, ?_⟩
  refine forR_ix (fun i ρ M' => M' = M ∧ ∃ x2, ρ = [some (.val (.int W)), some (.val (.lst ((ixs (2 * i + 1)).map spD))), x2]) _ 0 ?_ ?_ _ _ ⟨rfl, _, rfl⟩
  · rintro i d hd F hF ρ M' ⟨rfl, x2, rfl⟩
    obtain ⟨hi, rfl⟩ := enum_range hd
    have hn : (ixs (2 * (0 + i) + 1)).length = 2 * (0 + i) + 1 := ixs_len _
    refine ⟨mul_small (by decide) (by decide) (by omega) (by omega), by show 2 ≤ 1000000; decide, by show 2 ≤ 1000000; decide, by show 2 ≤ 1000000; decide, ?_, ?_⟩
    · show ((ixs (2 * (0 + i) + 1)).map spD).length + 2 ≤ 1000000
      rw [List.length_map, hn]; omega
    · refine hF _ _ ⟨rfl, some (.val (.int i)), ?_⟩
      have e1 := ixs_two (0 + i)
      rw [← e1, List.map_append]
      rw [Nat.zero_add]
      show _ = [_, some (Sv.val (D.lst ((ixs (2 * i + 1)).map spD ++ [spD (2 * (i : Int) + 1), spD (2 * ((i : Int) + 1))]))), _]
      rw [spD_odd, spD_even]
      rfl
  · rintro ρ M' ⟨rfl, x2, rfl⟩
    rw [rngD_len, Nat.zero_add]
    refine ⟨M', MLe.refl _, ?_⟩
    rw [show 2 * W.toNat + 1 = (2 * W + 1).toNat by omega]
    exact hq
def sp__law_simplest (C : Cl) : PSp := fun ds M q _ => ar1 ds fun d => ∃ ks : List Int, d = .lst (ks.map spD) ∧ ks.length ≤ 100000 ∧ q (lstK ks) M
def rd__law_simplest (C : Cl) : PTS := (dSeq (dSet 1 (dL (dG1 fSorted (dL (dComp [2, 3] (iA (dVar 0)) (gTp 2 (gsCons (gNm 2) (gsCons (gNm 3) gsNil))) dYes (dTup (dCons (dVar 3) (dCons (dVar 2) dNil))))))))
    (dRet (dIf (dTst (dOp fNe (dVar 1) (dL (dLst dNil)))) (dTup (dCons (dOp fIx (dOp fIx (dVar 1) (dC (.int 0))) (dC (.int 1))) (dCons (dOp fIx (dOp fIx (dVar 1) (dC (.int 0))) (dC (.int 0))) dNil))) (dC .non))))
theorem okD_tups' (l : List (List Int)) : okD 50 (.lst (l.map tupI)) = true := by
  show (l.map tupI).all (okD 49) = true
  rw [List.all_eq_true]
  intro x hx
  obtain ⟨n, _, rfl⟩ := List.mem_map.mp hx
  exact okD_ints (k := 48) n
theorem lexL_prH (a b : Int) : lexL [bI a, tI a] [bI b, tI b] = ltP (prH a) (prH b) := by
  show _ = (decide (bI a < bI b) || (!decide (bI b < bI a) && decide (tI a < tI b)))
  simp only [lexL]
  by_cases c : bI a = bI b
  · rw [if_pos c, show decide (bI a < bI b) = false from decide_eq_false (by omega), show decide (bI b < bI a) = false from decide_eq_false (by omega)]
    by_cases c2 : tI a = tI b
    · rw [if_pos c2]; simp [c2]
    · rw [if_neg c2]; simp
  · rw [if_neg c]
    by_cases c2 : bI a < bI b
    · simp [c2]
    · have : bI b < bI a := by omega
      simp [c2, this]
theorem sh__law_simplest (C : Cl) : Shows (sp__law_simplest C) 4 (rd__law_simplest C) := by
  intro ds M q e h
  obtain ⟨d, rfl, ks, rfl, hl, hq⟩ := ar1_of h
  refine ⟨rfl, ?_⟩
  refine compR_on (c := spD) (f := fun k => tupI [bI k, tI k]) ks (fun k hk' κ kf hκ => ?_) (by omega) ?_
  · exact ⟨rfl, by show 2 ≤ 1000000; decide, hκ⟩
  · refine ⟨ks.map fun k => [bI k, tI k], by rw [List.map_map]; rfl, .inl fun n hn => ?_, fun mss hs hp => ?_⟩
    · obtain ⟨k, _, rfl⟩ := List.mem_map.mp hn
      exact List.cons_ne_nil _ _
    · have hok : okD 50 (.lst (mss.map tupI)) = true := okD_tups' mss
      have ene : Ev (dOp fNe (dVar 1) (dL (dLst dNil))) (fun cls fs x M' => ∃ M2, MLe M2 M' ∧ e cls fs M2) [some (.val (.lst (ks.map spD))), some (.val (.lst (mss.map tupI))), none, none] M (.bl (!eqD (.lst (mss.map tupI)) (.lst []))) :=
        ev_op (ev_var rfl) (ev_lst eva_nil (by decide)) (o2_ne hok rfl)
      refine ret_ev (d := lstK ks) (ev_ife (evt ene) (fun c => ?_) (fun c => ?_)) ⟨M, MLe.refl M, hq⟩
      · cases mss with
        | nil => exact absurd c (by show ¬ (!eqD (.lst []) (.lst [])) = true; decide)
        | cons m r =>
          have hm : m ∈ ks.map fun k => [bI k, tI k] := hp.mem_iff.mp List.mem_cons_self
          obtain ⟨k, hk, rfl⟩ := List.mem_map.mp hm
          have e1 : lstK ks = spD k := by
            refine lstK_is hk fun y hy => ?_
            have hy' : [bI y, tI y] ∈ [bI k, tI k] :: r := hp.mem_iff.mpr (List.mem_map.mpr ⟨y, hy, rfl⟩)
            rw [← lexL_prH]
            rcases List.mem_cons.mp hy' with z | z
            · rw [z]; exact lexL_irr _
            · exact (List.pairwise_cons.mp hs).1 _ z
          rw [e1]
          exact ev_tup (eva_cons (ixT_ev (ixL_ev (ev_var rfl) ev_c (at0 (a := tupI [bI k, tI k]))) ev_c at1) (eva_cons (ixT_ev (ixL_ev (ev_var rfl) ev_c (at0 (a := tupI [bI k, tI k]))) ev_c at0) eva_nil)) (by show 2 ≤ 1000000; decide)
      · cases mss with
        | cons m r => revert c; exact fun c => nomatch c
        | nil =>
          have e0 : ks = [] := by have := hp.length_eq; simpa using this.symm
          rw [e0]
          exact ev_c
end Px
set_option Elab.async false
set_option linter.all false
set_option maxRecDepth 100000
namespace Px
open PySem PySem.Spec PyProof.Rows L2
def keyD : D → Option Key
  | .int i => some (.inl i)
  | .str s => some (.inr s)
  | _ => none
def getDK (kvs : List (Key × D)) (k : Key) : Option D := (kvs.find? fun kv => decide (kv.1 = k)).map (·.2)
def putDK (kvs : List (Key × D)) (k : Key) (d : D) : List (Key × D) :=
  if (kvs.any fun kv => decide (kv.1 = k)) = true then kvs.map (fun kv => if kv.1 = k then (kv.1, d) else kv) else kvs ++ [(k, d)]
theorem getDK_pos {p : Key × D} {r : List (Key × D)} {k : Key} (e : p.1 = k) : getDK (p :: r) k = some p.2 := by simp [getDK, List.find?_cons, e]
theorem getDK_neg {p : Key × D} {r : List (Key × D)} {k : Key} (e : ¬ p.1 = k) : getDK (p :: r) k = getDK r k := by simp [getDK, List.find?_cons, e]
theorem any_DK (k : Key) : ∀ kvs : List (Key × D), (kvs.any fun kv => decide (kv.1 = k)) = (getDK kvs k).isSome
  | [] => rfl
  | p :: r => by
    rw [List.any_cons]
    by_cases e : p.1 = k
    · rw [getDK_pos e, decide_eq_true e]; rfl
    · rw [getDK_neg e, decide_eq_false e, Bool.false_or]; exact any_DK k r
section
variable {K : PySem.W.Frag} {F : Hp}
theorem getDK_rel {k : Key} : ∀ {kvs : List (Key × D)} {ys : List (Key × V)}, ys.map (·.1) = kvs.map (·.1) → RpL K F (kvs.map (·.2)) (ys.map (·.2)) → match getDK kvs k with
    | some d => ∃ v, valV ys k = some v ∧ Rp K F d v
    | none => valV ys k = none
  | [], [], _, _ => rfl
  | [], _ :: _, e, _ => by cases e
  | _ :: _, [], e, _ => by cases e
  | (n, x) :: r, (m, y) :: ys, e, rl => by
    injection e with e1 e2
    have e1 : m = n := e1
    subst e1
    obtain ⟨v', vr, e3, r1, r2⟩ := rl
    injection e3 with e4 e5
    subst e4
    subst e5
    by_cases c : m = k
    · rw [getDK_pos (p := (m, x)) c]
      exact ⟨y, valV_pos c, r1⟩
    · rw [getDK_neg (p := (m, x)) c, valV_neg (p := (m, y)) c]
      exact getDK_rel e2 r2
theorem mapDK_rel {k : Key} {d : D} {v : V} (hv : Rp K F d v) : ∀ {kvs : List (Key × D)} {ys : List (Key × V)}, ys.map (·.1) = kvs.map (·.1) → RpL K F (kvs.map (·.2)) (ys.map (·.2)) →
    (ys.map fun kv => if kv.1 = k then (kv.1, v) else kv).map (·.1) = (kvs.map fun kv => if kv.1 = k then (kv.1, d) else kv).map (·.1) ∧ RpL K F ((kvs.map fun kv => if kv.1 = k then (kv.1, d) else kv).map (·.2)) ((ys.map fun kv => if kv.1 = k then (kv.1, v) else kv).map (·.2))
  | [], [], _, _ => ⟨rfl, rfl⟩
  | [], _ :: _, e, _ => by cases e
  | _ :: _, [], e, _ => by cases e
  | (n, x) :: r, (m, y) :: ys, e, rl => by
    injection e with e1 e2
    have e1 : m = n := e1
    subst e1
    obtain ⟨v', vr, e3, r1, r2⟩ := rl
    injection e3 with e4 e5
    subst e4
    subst e5
    obtain ⟨i1, i2⟩ := mapDK_rel (k := k) hv e2 r2
    by_cases c : m = k
    · simp only [List.map_cons, if_pos c]
      exact ⟨by rw [List.cons.injEq]; exact ⟨rfl, i1⟩, v, _, rfl, hv, i2⟩
    · simp only [List.map_cons, if_neg c]
      exact ⟨by rw [List.cons.injEq]; exact ⟨rfl, i1⟩, y, _, rfl, r1, i2⟩
theorem RpL.appOne {d : D} {v : V} (hv : Rp K F d v) : ∀ {ds : List D} {xs : List V}, RpL K F ds xs → RpL K F (ds ++ [d]) (xs ++ [v])
  | [], xs, h => by rw [show xs = [] from h]; exact ⟨v, [], rfl, hv, rfl⟩
  | _ :: _, _, ⟨x, r, e, h1, h2⟩ => by rw [e]; exact ⟨x, _, rfl, h1, RpL.appOne hv h2⟩
theorem putDK_rel {k : Key} {d : D} {v : V} (hv : Rp K F d v) {kvs : List (Key × D)} {ys : List (Key × V)} (e : ys.map (·.1) = kvs.map (·.1)) (r : RpL K F (kvs.map (·.2)) (ys.map (·.2))) :
    (putK ys k v).map (·.1) = (putDK kvs k d).map (·.1) ∧ RpL K F ((putDK kvs k d).map (·.2)) ((putK ys k v).map (·.2)) := by
  have h := getDK_rel (k := k) e r
  unfold putDK putK
  rw [any_DK, valV_any]
  cases c : getDK kvs k with
  | some x =>
    rw [c] at h
    obtain ⟨u, hu, _⟩ := h
    rw [hu, if_pos (show (some u).isSome = true from rfl), if_pos (show (some x).isSome = true from rfl)]
    exact mapDK_rel hv e r
  | none =>
    rw [c] at h
    rw [show valV ys k = none from h, if_neg (by simp), if_neg (by simp), List.map_append, List.map_append, List.map_append, List.map_append, e]
    exact ⟨rfl, RpL.appOne hv r⟩
theorem keyD_is {d : D} {k : Key} {v : V} (h : keyD d = some k) (r : Rp K F d v) : v = kV k := by
  cases d with
  | int i => cases h; exact r
  | str s => cases h; exact r
  | _ => cases h
end
def asDk (d : D) (M : Mm) (f : Addr → List (Key × D) → Prop) : Prop := match d with
  | .raw (.ref a) => match M a with | some (.dik l) => f a l | _ => False
  | _ => False
theorem asDk_of {d : D} {M : Mm} {f : Addr → List (Key × D) → Prop} (h : asDk d M f) : ∃ a l, d = .raw (.ref a) ∧ M a = some (.dik l) ∧ f a l := by
  unfold asDk at h
  split at h
  · rename_i a
    split at h
    · rename_i l e
      exact ⟨a, l, rfl, e, h⟩
    · exact h.elim
  · exact h.elim
theorem asDk_in {a : Addr} {M : Mm} {l : List (Key × D)} {f : Addr → List (Key × D) → Prop} (h : M a = some (.dik l)) (k : f a l) : asDk (.raw (.ref a)) M f := by
  unfold asDk
  dsimp only
  rw [h]
  exact k
section
variable {X : Cx}
end
section
variable {X : Cx} {W : WX} {a b c e i : Expr} {pa pb pc pe : PTE} {pos p : Pos}
def dNewDk : PTE := fun w ρ M q => ∀ a, M a = none → q (.raw (.ref a)) (updM M a (.dik []))
theorem de_newDk : DE X W (.Dict [] [] pos) dNewDk := pe_imp pe_dnewK fun σ H Q ⟨g, ρ, M, F, O, q, w, A, p, hw, k⟩ => fun c hc =>
  k (.ref c) _ F _ _ (.raw (.ref c)) (A.newMo (o := .dK []) (mo := .dik []) hc ⟨[], upd_same, if_pos rfl, rfl, rfl⟩) (Same.refl F) rfl (p c (A.m0 hc))
def dGetDk (pa pb : PTE) : PTE := fun w ρ M q => pa w ρ M fun x M1 => pb w ρ M1 fun y M2 => asDk x M2 fun _ l => ∃ k d, keyD y = some k ∧ getDK l k = some d ∧ q d M2
theorem de_getDk (hu : X.A.units + 9 < cLine) (ha : DE X W a pa) (hb : DE X W i pb) (hs : NoSl i := by exact fun _ _ => rfl) : DE X W (.Subscript a i pos) (dGetDk pa pb) := pe_imp (pe_dget (show X.A.units + 1 < cLine by omega) ha hb hs) fun σ H Q ⟨g, ρ, M, F, O, q, w, A, h, hw, k⟩ =>
  ⟨g, ρ, M, F, O, _, w, A, h, hw, fun v H1 F1 O1 M1 x A1 s1 r1 q1 => ⟨g, ρ, M1, F1, O1, _, w, A1, q1, hw.mono s1, fun u H2 F2 O2 M2 y A2 s2 r2 q2 => by
    obtain ⟨c, l, rfl, hM, kk, d, hk, hd, q3⟩ := asDk_of q2
    obtain ⟨ys, e1, e2, e3, e4⟩ := A2.mu c _ hM
    have hg := getDK_rel (k := kk) e3 e4
    rw [hd] at hg
    obtain ⟨z, hz, rz⟩ := hg
    refine ⟨c, z, r1, ?_, k z H2 F2 O2 M2 d A2 (s1.trans s2) rz q3⟩
    rw [keyD_is hk r2, ← hz]
    exact DGet.k e1⟩⟩
def putAt (po pk : PTE) (v : D) (w : PWi) (ρ : Rho) (M : Mm) (q : Mm → Prop) : Prop := po w ρ M fun y M1 => pk w ρ M1 fun x M2 => asDk y M2 fun c l => ∃ k, keyD x = some k ∧ l.length < 1000 ∧ q (updM M2 c (.dik (putDK l k v)))
end
end Px
set_option Elab.async false
set_option linter.all false
set_option maxRecDepth 100000
namespace PySem
open Sem (wp)
section
variable {prog : Program} {w : World} {K : Type} [DecidableEq K] {knd : KeyKind prog w K} {A : Around} {E : Value → Shared → Prop} {s : Shared}
end
end PySem
set_option Elab.async false
set_option linter.all false
set_option maxRecDepth 100000
namespace PySem
open Sem (wp)
section
variable {prog : Program} {w : World} {A : Around} {E : Value → Shared → Prop} {s : Shared}
end
end PySem
namespace Px
open PySem PySem.Spec PyProof.Rows L2
end Px
set_option Elab.async false
set_option linter.all false
set_option maxRecDepth 100000
namespace Px
open PySem PySem.Spec PyProof.Rows L2
def dOfK : Key → D
  | .inl i => .int i
  | .inr s => .str s
theorem rp_ofK {K : PySem.W.Frag} {F : Hp} : ∀ k : Key, Rp K F (dOfK k) (kV k)
  | .inl _ => rfl
  | .inr _ => rfl
theorem rpl_ofK {K : PySem.W.Frag} {F : Hp} : ∀ ks : List Key, RpL K F (ks.map dOfK) (ks.map kV)
  | [] => rfl
  | k :: r => ⟨_, _, rfl, rp_ofK k, rpl_ofK r⟩
section
variable {X : Cx} {W : WX} {a b c e : Expr} {pa pb pc : PTE} {pos p apos cpos : Pos}
def dKeysDk (pa : PTE) : PTA := fun w ρ M q => pa w ρ M fun x M1 => asDk x M1 fun _ l => q (l.map fun kv => dOfK kv.1) M1
theorem dl_keysDk (hc : X.calm = true) (hg : Gl X "list") (hm : X.mg "list" = none) (ha : DE X W a pa) (he : starEach [a] X.env = (false, eval a X.env) :: starEach [] X.env := by rfl) (hpl : (backTo pos (starEach [] X.env)).any (·.1) = false := by rfl) :
    DL X W (.Call (.Name "list" p) [a] [] pos) (dKeysDk pa) := pe_imp (pe_callTy (call_list_dK hc) hg hm (by decide +kernel) (pa_cons ha pa_nil he) (by decide) (by decide) he hpl) fun σ H Q ⟨g, ρ, M, F, O, q, w, A, h, hw, k⟩ =>
  ⟨g, ρ, M, F, O, _, w, A, h, hw, fun v H1 F1 O1 M1 x A1 s1 r1 q1 => by
    obtain ⟨c, l, rfl, hM, q2⟩ := asDk_of q1
    obtain ⟨ys, e1, e2, e3, e4⟩ := A1.mu c _ hM
    have r1' : v = .ref c := r1
    subst r1'
    refine ⟨c, ys, rfl, e1, fun t ht => ?_⟩
    have rr : RpL X.K F1 (l.map fun kv => dOfK kv.1) (ys.map fun kv => kV kv.1) := by
      have a1 : (l.map fun kv => dOfK kv.1) = (l.map (·.1)).map dOfK := by rw [List.map_map]; rfl
      have a2 : (ys.map fun kv => kV kv.1) = (l.map (·.1)).map kV := by rw [← e3, List.map_map]; rfl
      rw [a1, a2]
      exact rpl_ofK _
    exact k t (ys.map fun kv => kV kv.1) _ F1 O1 M1 _ (A1.laid ht) s1 upd_same rr (A1.f0 ht) (A1.o0 ht) (A1.g0 ht) q2⟩
end
end Px
set_option Elab.async false
set_option linter.all false
set_option maxRecDepth 100000
namespace Px
open PySem PySem.Spec PyProof.Rows L2
def compR2 (gd : PTG) (tt : PTT) (pl1 : PTA) (gd1 : PTG) (tt1 : PTT) (te : PTE) (vs1 : List Nat) (ρ : Rho) : List D → List D → Mm → (List D → Mm → Prop) → Prop
  | [], acc, M, q => q acc M
  | x :: r, acc, M, q => gd x ρ fun ρ' => tt w0 ρ' M fun b M1 => if b = true then pl1 w0 ρ' M1 fun ds1 M2 => compR gd1 tt1 te (uns ρ' vs1) ds1 acc M2 fun acc' M3 => compR2 gd tt pl1 gd1 tt1 te vs1 ρ r acc' M3 q else compR2 gd tt pl1 gd1 tt1 te vs1 ρ r acc M1 q
def dComp2 (vs vs1 : List Nat) (pl : PTA) (gd : PTG) (tt : PTT) (pl1 : PTA) (gd1 : PTG) (tt1 : PTT) (te : PTE) : PTA := fun w ρ M q => okW ρ vs = true ∧ pl w ρ M fun ds M1 => compR2 gd tt pl1 gd1 tt1 te vs1 (uns ρ vs) ds [] M1 q
section
variable {X : Cx} {W : WX} {elt tg iter tg1 iter1 : Expr} {ifs ifs1 : List Expr} {scope : Scope} {own : List (Str × Nat)} {pos : Pos} {pl pl1 : PTA} {gd gd1 : PTG} {tt tt1 : PTT} {te : PTE} {is is1 vs vs1 : List Nat}
theorem compR2_at {ρ : Rho} {ds acc : List D} {M : Mm} {q : List D → Mm → Prop} {i : Nat} {d : D} (h : ds[i]? = some d) (k : compR2 gd tt pl1 gd1 tt1 te vs1 ρ (ds.drop i) acc M q) :
    gd d ρ fun ρ' => tt w0 ρ' M fun b M1 => if b = true then pl1 w0 ρ' M1 fun ds1 M2 => compR gd1 tt1 te (uns ρ' vs1) ds1 acc M2 fun acc' M3 => compR2 gd tt pl1 gd1 tt1 te vs1 ρ (ds.drop (i + 1)) acc' M3 q else compR2 gd tt pl1 gd1 tt1 te vs1 ρ (ds.drop (i + 1)) acc M1 q := by
  obtain ⟨hi, e⟩ := List.getElem?_eq_some_iff.mp h
  rw [List.drop_eq_getElem_cons hi, e] at k
  exact k
theorem comp2_run {K : PySem.W.Frag} (hsub : ∀ j ∈ is, j ∈ vs) (hv : ∀ j ∈ vs1, j ∈ vs) (hsub1 : ∀ j ∈ is1, j ∈ vs1) {σ : L2.St} {H : Hp} {Q : VK} (h : realL K W (dComp2 vs vs1 pl gd tt pl1 gd1 tt1 te) σ H Q) :
    tLc2 (realI K W pl) (realG K is gd) (realT K W0 tt) (realI K W0 pl1) (realG K is1 gd1) (realT K W0 tt1) (real K W0 te) vs vs1 σ H Q := by
  obtain ⟨g, ρ, M, F, O, q, w, A, ⟨hW, pr⟩, hw, k⟩ := h
  refine ⟨g, ρ, M, F, O, _, w, A, pr, hw, fun J H1 F1 O1 M1 ds A1 s1 wk q1 => fun D0 hD => ?_⟩
  have nd : ∀ p ∈ g.tmp, p.1 ≠ D0 := fun p hp z => by
    obtain ⟨xs, e1, _⟩ := A1.tm p.1 p.2 hp
    rw [z, hD] at e1; cases e1
  have A2 := ((A1.laid (o := .lst []) hD).tmpNew (l := []) upd_same rfl (A1.f0 hD) (A1.o0 hD) (A1.g0 hD)).wiped vs
  refine ⟨fun i m H' => ∃ M' F' O' acc, Ab K { g with tmp := (D0, acc) :: g.tmp } (wipe σ vs) H' (uns ρ vs) M' F' O' ∧ Same F1 F' ∧ i ≤ ds.length ∧ m = ds.length - i ∧ compR2 gd tt pl1 gd1 tt1 te vs1 (uns ρ vs) (ds.drop i) acc M' q,
    ⟨ds.length, M1, F1, _, [], A2, Same.refl F1, Nat.zero_le _, rfl, q1⟩, ?_⟩
  rintro i m H2 ⟨M2, F2, O2, acc, A3, s3, hi2, rfl, q2⟩
  by_cases hlt : i < ds.length
  · refine .inr ⟨wk.go _ _ _ _ _ _ _ i A3 s3 hlt, fun H' => ∃ M' F' O' acc, Ab K { g with tmp := (D0, acc) :: g.tmp } (wipe σ vs) H' (uns ρ vs) M' F' O' ∧ Same F1 F' ∧ compR2 gd tt pl1 gd1 tt1 te vs1 (uns ρ vs) (ds.drop (i + 1)) acc M' q, ?_, ?_⟩
    · rintro H' ⟨M', F', O', acc', A', s', q'⟩
      exact ⟨ds.length - (i + 1), by omega, M', F', O', acc', A', s', hlt, rfl, q'⟩
    · intro x H3 y3
      have hd := List.getElem?_eq_getElem hlt
      obtain ⟨F3, A4, s4, r4⟩ := wk.yl _ _ _ _ _ _ _ i x H3 _ A3 s3 y3 hd
      have q3 := compR2_at hd q2
      refine ⟨_, uns ρ vs, M2, F3, O2, _, _, A4, r4, q3, fun σ5 ρ5 A5 n5 l5 q5 => ?_⟩
      have ew : wipe σ5 vs = wipe σ vs := wipe_eq (by rw [l5, wipe_length]) fun j hj => (n5 j fun z => hj (hsub j z)).1
      have hl5 : ρ5.length = ρ.length := by rw [A5.len, l5, wipe_length, ← A1.len]
      have back : ∀ {H' : Hp} {M' : Mm} {F' : Hp} {O' : Own} {acc' : List D}, Ab K { g with tmp := (D0, acc') :: g.tmp } σ5 H' ρ5 M' F' O' → Ab K { g with tmp := (D0, acc') :: g.tmp } (wipe σ vs) H' (uns ρ vs) M' F' O' := fun {H' M' F' O' acc'} Z => by
        have Z2 := Z.wiped vs
        rw [ew] at Z2
        refine Z2.congr (by rw [uns_len, uns_len, hl5]) fun j => ?_
        by_cases hj : j ∈ vs
        · rw [gt_uns.2 hj, gt_uns.2 hj]
        · rw [gt_uns.1 hj, gt_uns.1 hj]
          have z := (n5 j fun z => hj (hsub j z)).2
          rw [gt_uns.1 hj] at z
          exact z.symm
      refine ⟨ew, _, ρ5, M2, F3, O2, _, w0, A5, q5, fun _ _ _ _ _ _ _ _ _ _ _ _ z => z, fun b H6 F6 O6 M6 A6 s6 q6 => ?_⟩
      cases b with
      | false =>
        rw [if_neg Bool.false_ne_true] at q6 ⊢
        exact ⟨M6, F6, O6, acc, back A6, (s3.trans s4).trans s6, q6⟩
      | true =>
        rw [if_pos rfl] at q6 ⊢
        refine ⟨_, ρ5, M6, F6, O6, _, w0, A6, q6, fun _ _ _ _ _ _ _ _ _ _ _ _ z => z, fun J1 H7 F7 O7 M7 ds1 A7 s7 wk1 q7 => ?_⟩
        have s17 : Same F1 F7 := ((s3.trans s4).trans s6).trans s7
        have back2 : ∀ {H' : Hp} {M' : Mm} {F' : Hp} {O' : Own} {acc' : List D}, Ab K { g with tmp := (D0, acc') :: g.tmp } (wipe σ5 vs1) H' (uns ρ5 vs1) M' F' O' → Ab K { g with tmp := (D0, acc') :: g.tmp } (wipe σ vs) H' (uns ρ vs) M' F' O' := fun {H' M' F' O' acc'} Z => by
          have Z2 := Z.wiped vs
          have e2 : wipe (wipe σ5 vs1) vs = wipe σ vs := by
            rw [← ew]
            exact wipe_eq (wipe_length _ _) fun j hj => (wipe_out fun z => hj (hv j z)).trans (wipe_out hj).symm
          rw [e2] at Z2
          refine Z2.congr (by rw [uns_len, uns_len, uns_len, hl5]) fun j => ?_
          by_cases hj : j ∈ vs
          · rw [gt_uns.2 hj, gt_uns.2 hj]
          · rw [gt_uns.1 hj, gt_uns.1 hj, gt_uns.1 (fun z => hj (hv j z))]
            have z := (n5 j fun z => hj (hsub j z)).2
            rw [gt_uns.1 hj] at z
            exact z.symm
        refine ⟨fun j k H' => ∃ M' F' O' acc', Ab K { g with tmp := (D0, acc') :: g.tmp } (wipe σ5 vs1) H' (uns ρ5 vs1) M' F' O' ∧ Same F7 F' ∧ j ≤ ds1.length ∧ k = ds1.length - j ∧ compR gd1 tt1 te (uns ρ5 vs1) (ds1.drop j) acc' M' fun acc'' M'' => compR2 gd tt pl1 gd1 tt1 te vs1 (uns ρ vs) (ds.drop (i + 1)) acc'' M'' q,
          ⟨ds1.length, M7, F7, _, acc, A7.wiped vs1, Same.refl F7, Nat.zero_le _, rfl, q7⟩, ?_⟩
        rintro j kk H8 ⟨M8, F8, O8, acc8, A8, s8, hj8, rfl, q8⟩
        by_cases hlt1 : j < ds1.length
        · refine .inr ⟨wk1.go _ _ _ _ _ _ _ j A8 s8 hlt1, fun H' => ∃ M' F' O' acc', Ab K { g with tmp := (D0, acc') :: g.tmp } (wipe σ5 vs1) H' (uns ρ5 vs1) M' F' O' ∧ Same F7 F' ∧ compR gd1 tt1 te (uns ρ5 vs1) (ds1.drop (j + 1)) acc' M' fun acc'' M'' => compR2 gd tt pl1 gd1 tt1 te vs1 (uns ρ vs) (ds.drop (i + 1)) acc'' M'' q, ?_, ?_⟩
          · rintro H' ⟨M', F', O', acc', A', s', q'⟩
            exact ⟨ds1.length - (j + 1), by omega, M', F', O', acc', A', s', hlt1, rfl, q'⟩
          · intro x1 H9 y9
            have hd1 := List.getElem?_eq_getElem hlt1
            obtain ⟨F9, A9, s9, r9⟩ := wk1.yl _ _ _ _ _ _ _ j x1 H9 _ A8 s8 y9 hd1
            have q9 := compR_at hd1 q8
            refine ⟨_, uns ρ5 vs1, M8, F9, O8, _, _, A9, r9, q9, fun σa ρa Aa na la qa => ?_⟩
            have ea : wipe σa vs1 = wipe σ5 vs1 := wipe_eq (by rw [la, wipe_length]) fun j hj => (na j fun z => hj (hsub1 j z)).1
            have hla : ρa.length = ρ5.length := by rw [Aa.len, la, wipe_length, ← A5.len]
            have back1 : ∀ {H' : Hp} {M' : Mm} {F' : Hp} {O' : Own} {acc' : List D}, Ab K { g with tmp := (D0, acc') :: g.tmp } σa H' ρa M' F' O' → Ab K { g with tmp := (D0, acc') :: g.tmp } (wipe σ5 vs1) H' (uns ρ5 vs1) M' F' O' := fun {H' M' F' O' acc'} Z => by
              have Z2 := Z.wiped vs1
              rw [ea] at Z2
              refine Z2.congr (by rw [uns_len, uns_len, hla]) fun j => ?_
              by_cases hj : j ∈ vs1
              · rw [gt_uns.2 hj, gt_uns.2 hj]
              · rw [gt_uns.1 hj, gt_uns.1 hj]
                have z := (na j fun z => hj (hsub1 j z)).2
                rw [gt_uns.1 hj] at z
                exact z.symm
            refine ⟨ea, _, ρa, M8, F9, O8, _, w0, Aa, qa, fun _ _ _ _ _ _ _ _ _ _ _ _ z => z, fun b1 Hb Fb Ob Mb Ab1 sb qb => ?_⟩
            cases b1 with
            | false =>
              rw [if_neg Bool.false_ne_true] at qb ⊢
              exact ⟨Mb, Fb, Ob, acc8, back1 Ab1, (s8.trans s9).trans sb, qb⟩
            | true =>
              rw [if_pos rfl] at qb ⊢
              refine ⟨_, ρa, Mb, Fb, Ob, _, w0, Ab1, qb, fun _ _ _ _ _ _ _ _ _ _ _ _ z => z, fun v Hc Fc Oc Mc d Ac sc rc ⟨zc, qc⟩ => ?_⟩
              obtain ⟨xs, h1, h2, _⟩ := Ac.tm D0 acc8 List.mem_cons_self
              exact ⟨xs, h1, by rw [← h2.len]; exact line_lt zc, Mc, Fc, Oc, _, back1 (Ac.grow nd (h2.app (show RpL K Fc [d] [v] from ⟨v, [], rfl, rc, rfl⟩))), ((s8.trans s9).trans sb).trans sc, qc⟩
        · have e : j = ds1.length := by omega
          subst e
          rw [List.drop_length] at q8
          exact .inl ⟨wk1.sp _ _ _ _ _ _ _ A8 s8, M8, F8, O8, acc8, back2 A8, s17.trans s8, q8⟩
  · have e : i = ds.length := by omega
    subst e
    rw [List.drop_length] at q2
    refine .inl ⟨wk.sp _ _ _ _ _ _ _ A3 s3, ?_⟩
    have A4 := A3.unwiped A1 s3 hW
    obtain ⟨xs, O4, A5, h1, h2, h3, h4, h5⟩ := A4.made nd
    exact k D0 xs H2 F2 O4 M2 acc A5 (s1.trans s3) h1 h2 h3 h4 h5 q2
theorem ds_setC2 (i : Nat) (vs1 : List Nat) {y : Str} {py spos : Pos} (hc : X.calm = true) (hN : X.N.Nodup) (hsw : swapsWith (.ListComp elt [⟨tg, iter, ifs, 0⟩, ⟨tg1, iter1, ifs1, 0⟩] scope pos) (some (.Name y py)) spos.line X.env = pure true) (hi : DI X W tg iter pl) (ok : BlkOk X.N X.env.scope scope own)
    (hg : ∀ (s : Shared) (H : Hp) (C : Addr) (cl : List (Str × Addr)) (fp : List Addr), DG (X.blk s H scope (compEnvC scope cl C X.env) fp) tg is gd)
    (ht : ∀ (s : Shared) (H : Hp) (C : Addr) (cl : List (Str × Addr)) (fp : List Addr), DTs (X.blk s H scope (compEnvC scope cl C X.env) fp) W0 ifs tt)
    (hi1 : ∀ (s : Shared) (H : Hp) (C : Addr) (cl : List (Str × Addr)) (fp : List Addr), DI (X.blk s H scope (compEnvC scope cl C X.env) fp) W0 tg1 iter1 pl1)
    (hg1 : ∀ (s : Shared) (H : Hp) (C : Addr) (cl : List (Str × Addr)) (fp : List Addr), DG (X.blk s H scope (compEnvC scope cl C X.env) fp) tg1 is1 gd1)
    (ht1 : ∀ (s : Shared) (H : Hp) (C : Addr) (cl : List (Str × Addr)) (fp : List Addr), DTs (X.blk s H scope (compEnvC scope cl C X.env) fp) W0 ifs1 tt1)
    (he : ∀ (s : Shared) (H : Hp) (C : Addr) (cl : List (Str × Addr)) (fp : List Addr), DE (X.blk s H scope (compEnvC scope cl C X.env) fp) W0 elt te) (hsub : ∀ j ∈ is, j ∈ own.map (·.2) := by decide) (hv : ∀ j ∈ vs1, j ∈ own.map (·.2) := by decide) (hsub1 : ∀ j ∈ is1, j ∈ vs1 := by decide)
    (hy : X.N[i]? = some y := by rfl) (hyl : X.env.scope.names.lookup y = some .local := by rfl) (hs : ∀ x, foldedSetIterable iter X.env x = pure x := by intro _; rfl) (hs1 : ∀ env x, foldedSetIterable iter1 env x = pure x := by intro _ _; rfl) :
    DS X W (.Assign [.Name y py] (.ListComp elt [⟨tg, iter, ifs, 0⟩, ⟨tg1, iter1, ifs1, 0⟩] scope pos) spos) (dSet i (dL (dComp2 (own.map (·.2)) vs1 pl gd tt pl1 gd1 tt1 te))) :=
  ps_imp (ps_setLc2 hc hN hy hyl hsw hi ok hv hg ht hi1 hg1 ht1 he hs hs1) fun D σ H ⟨g, ρ, M, F, O, P, w, A, h, hw, k1, _⟩ => by
    refine comp2_run (Q := fun x H1 => gName i x σ H1 D.nx) hsub hv hsub1 ⟨g, ρ, M, F, O, _, w, A, h, hw, fun a xs H' F' O' M' ds A' s hH r hF hO h0 q => ?_⟩
    have s2 : Same F' (upd F' a (.lst xs)) := same_new hF
    exact k1 _ H' _ M' _ O' ((A'.freeze hH hF hO h0).put (d := .lst ds) ⟨a, xs, rfl, upd_same, RpL.mono s2 ds xs r⟩) (s.trans s2) q
end
end Px
set_option Elab.async false
set_option linter.all false
set_option maxRecDepth 100000
namespace Px
open PySem PySem.Spec PyProof.Rows L2
section
variable {X : Cx} {W : WX} {o e : Expr} {po pe : PTE} {apos cpos : Pos}
end
end Px
set_option Elab.async false
set_option linter.all false
set_option maxRecDepth 100000
namespace Px
open PySem PySem.Spec PyProof.Rows L2
section
variable {X : Cx} {W : WX} {a : Expr} {pa : PTE} {p p2 q pos : Pos}
end
end Px
set_option Elab.async false
set_option linter.all false
set_option maxRecDepth 100000
namespace Px
open PySem PySem.Spec PyProof.Rows L2
section
variable {X : Cx} {W : WX} {a : Expr} {pa : PTE} {p p2 pos pos2 : Pos}
end
end Px
set_option Elab.async false
set_option linter.all false
set_option maxRecDepth 100000
namespace Px
open PySem PySem.Spec PyProof.Rows L2
section
variable {X : Cx}
end
section
variable {X : Cx} {W : WX} {K : PySem.W.Frag} {a b : Expr} {pa pb : PTE} {pos : Pos}
end
end Px
set_option Elab.async false
set_option linter.all false
set_option maxRecDepth 100000
namespace Px
open PySem PySem.Spec PyProof.Rows L2
section
variable {X : Cx} {tg : Expr}
end
section
variable {X : Cx} {W : WX} {tg : Expr} {a b : Expr} {pa pb : PTE} {p pos : Pos}
end
end Px
set_option Elab.async false
set_option linter.all false
set_option maxRecDepth 100000
namespace Px
open PySem PySem.Spec PyProof.Rows L2
abbrev LamT := Arguments × Expr × Scope
section
variable {X : Cx} {W : WX} {c P : Addr} {qn : Str} {prm : Arguments} {bd : Expr} {scp : Scope} {lp : Pos} {Ls : List LamT} {k : Nat}
end
section
variable {B : Cx} {tg elt iter : Expr} {ifs : List Expr} {scope : Scope} {pos : Pos} {g : TG} {tt : TT} {te : TE} {vs : List Nat} {σ : L2.St} {J : It} {D it : Addr} {fp : List Addr} {tn : Nat → Heap → Prop} {Q : VK} {W : Nat → Nat → Hp → Prop}
end
section
variable {X : Cx} {W : WX}
end
end Px
set_option Elab.async false
set_option linter.all false
set_option maxRecDepth 100000
namespace Px
open PySem PySem.Spec PyProof.Rows L2
section
variable {X : Cx} {k l : Nat} {g : Addr} {fd : FuncData} {a x y qual qn : Str} {stm : Stmt} {N : List Str} {TT : PC → PC} {scope : Scope} {p p2 pos : Pos} {Ls : List LamT} {pbs : List PTE} {vs : List Nat}
end
section
variable {X : Cx} {W : WX} {tg elt iter : Expr} {scope : Scope} {own : List (Str × Nat)} {pos : Pos} {is : List Nat} {pl : PTA} {gd : PTG} {te : PTE}
end
end Px
set_option Elab.async false
set_option linter.all false
set_option maxRecDepth 100000
namespace Px
open PySem PySem.Spec PyProof.Rows L2
section
variable {K : PySem.W.Frag} {g : Gh} {σ : L2.St} {H F : Hp} {ρ : Rho} {M : Mm} {O : Own} {b : Addr}
end
section
variable {X : Cx} {W : WX} {k n : Nat} {f : Addr} {fd : FuncData} {ps : List Str} {sp : PSp} {x : Str} {p pos : Pos} {e : Expr} {es : List Expr} {pl : PTA}
end
end Px
set_option Elab.async false
set_option linter.all false
set_option maxRecDepth 100000
namespace Px
open PySem PySem.Spec PyProof.Rows L2
abbrev PSpN := List D → Mm → PQ → (List D → Mm → Prop) → PX → Prop
section
variable {P : Program} {w : World} {K : PySem.W.Frag} {mg : Str → Option Value} {base : Heap} {k : Nat} {f : Addr} {fd : FuncData} {ps N : List Str}
end
abbrev PTN := PWi → Rho → Mm → PQ → (List D → Mm → Prop) → Prop
section
variable {X : Cx} {W : WX} {k n : Nat} {f C : Addr} {fd : FuncData} {ps ks : List Str} {sp : PSpN} {x m : Str} {p pos apos : Pos} {e o c : Expr} {es : List Expr} {pl : PTA} {po pe : PTE} {pn : PTN} {pt : PTT} {kws : List Keyword} {ix : List Nat} {i : Nat}
end
end Px
set_option Elab.async false
set_option linter.all false
set_option maxRecDepth 100000
namespace Px
open PySem PySem.Spec PyProof.Rows L2
section
variable {X : Cx} {W : WX} {e : Expr} {pe : PTE} {pos p1 p2 p3 r1 r2 r3 : Pos}
end
end Px
set_option Elab.async false
set_option linter.all false
set_option maxRecDepth 100000
namespace Px
open PySem PySem.Spec PyProof.Rows L2
theorem set_self {α : Type} : ∀ {l : List α} {j : Nat} {x : α}, l[j]? = some x → l.set j x = l
  | [], _, _, h => by simp at h
  | _ :: _, 0, _, h => by simp at h; simp [h]
  | _ :: l, j + 1, _, h => by simp at h; simp [set_self (l := l) (by simpa using h)]
theorem gt_st_at : ∀ {ρ : Rho} {i : Nat} {x y : Sv}, gt ρ i = some x → gt (st ρ i y) i = some y
  | [], _, _, _, h => by cases h
  | _ :: r, 0, _, _, _ => rfl
  | x :: r, n + 1, _, _, h => gt_st_at (ρ := r) h
theorem st_st : ∀ (ρ : Rho) (i : Nat) (x y : Sv), st (st ρ i x) i y = st ρ i y
  | [], _, _, _ => rfl
  | _ :: r, 0, _, _ => rfl
  | z :: r, n + 1, x, y => by show z :: st (st r n x) n y = z :: st r n y; rw [st_st r n x y]
abbrev Bag := List (Addr × List D)
section
variable {K : PySem.W.Frag} {g : Gh} {σ : L2.St} {H : Hp} {ρ : Rho} {M : Mm} {F : Hp} {O : Own} {p : Addr} {i j : Nat} {d d' : D} {b : Bag} {l l' : List D} {xs ys : List V}
theorem Ab.addB (A : Ab K g σ H ρ M F O) (hi : gt ρ i = some (.bag d b)) (h : H p = some (.lst xs)) (r : RpL K F l xs) (hF : F p = none) (hO : O p = none) (h0 : g.H0 p = none) :
    Ab K g σ H (st ρ i (.bag d (b ++ [(p, l)]))) M F (fun q => if q = p then some (.slot i) else O q) := by
  obtain ⟨v, hv, rd, nd, hb⟩ := A.sl i _ hi
  have keep : ∀ b u, O b = some u → (if b = p then some (Ow.slot i) else O b) = some u := fun b u e => by rw [if_neg (fun z => by rw [z, hO] at e; cases e)]; exact e
  exact { sub := A.sub, ext0 := A.ext0, new := A.new, frm := A.frm, thr := A.thr
          liv := fun b u e => by
            by_cases z : b = p
            · subst z; exact ⟨⟨_, h⟩, hF, .inr h0⟩
            · rw [if_neg z] at e; exact A.liv b u e
          slo := fun b u e n => by
            by_cases z : b = p
            · subst z; exact h0
            · rw [if_neg z] at e; exact A.slo b u e n
          tm := fun q l e => by
            obtain ⟨xs, e1, e2, e3⟩ := A.tm q l e
            exact ⟨xs, e1, e2, keep q _ e3⟩
          mu := fun b mo e => (A.mu b mo e).mono (Same.refl F) fun q u e1 e2 => ⟨e1, keep q _ e2⟩
          len := by rw [st_len]; exact A.len
          sl := fun k sv e => by
            by_cases z : k = i
            · subst z
              have e2 := gt_st_self e
              subst e2
              refine ⟨v, hv, rd, ?_, fun q hq => ?_⟩
              · rw [List.map_append, List.nodup_append]
                refine ⟨nd, by simp, fun a ha c hc e => ?_⟩
                obtain ⟨q, hq, e1⟩ := List.mem_map.mp ha
                obtain ⟨_, _, _, e3⟩ := hb q hq
                have : c = p := by simpa using hc
                rw [e1, e, this, hO] at e3
                cases e3
              · rcases List.mem_append.mp hq with y | y
                · obtain ⟨zs, e1, e2, e3⟩ := hb q y
                  exact ⟨zs, e1, e2, keep _ _ e3⟩
                · have : q = (p, l) := by simpa using y
                  subst this
                  exact ⟨xs, h, r, if_pos rfl⟩
            · rw [gt_st_ne z] at e
              obtain ⟨u, e1, q⟩ := A.sl k sv e
              exact ⟨u, e1, q.mono (Same.refl F) fun q xs e1 e2 => ⟨e1, keep q _ e2⟩⟩ }
theorem Ab.thaw1 {q : Addr × List D} (A : Ab K g σ H ρ M F O) (hi : gt ρ i = some (.bag d (q :: b))) : ∃ F' O' xs, Ab K g σ H (st ρ i (.bag d b)) M F' O' ∧ Same F F' ∧ F' q.1 = some (.lst xs) ∧ RpL K F' q.2 xs := by
  obtain ⟨p, l⟩ := q
  obtain ⟨v, hv, rd, nd, hb⟩ := A.sl i _ hi
  obtain ⟨xs, hp, r, hO⟩ := hb _ List.mem_cons_self
  have hp : H p = some (.lst xs) := hp
  have hO : O p = some (.slot i) := hO
  obtain ⟨_, hF, _⟩ := A.liv p _ hO
  have s : Same F (upd F p (.lst xs)) := same_new hF
  have ne : ∀ b u, O b = some u → u ≠ .slot i → b ≠ p := fun b u e n z => by rw [z, hO] at e; exact n (Option.some.inj e).symm
  refine ⟨upd F p (.lst xs), fun b => if b = p then none else O b, xs, ?_, s, upd_same, RpL.mono s _ _ r⟩
  exact { sub := fun b u e => by
            by_cases z : b = p
            · subst z; rw [upd_same] at e; rw [hp]; exact e
            · rw [upd_ne z] at e; exact A.sub b u e
          ext0 := A.ext0.trans s
          new := fun b u e => by
            by_cases z : b = p
            · subst z; exact .inr (A.slo _ _ hO (fun _ z => by cases z))
            · rw [upd_ne z] at e; exact A.new b u e
          frm := A.frm, thr := A.thr
          liv := fun b u e => by
            by_cases z : b = p
            · rw [if_pos z] at e; cases e
            · rw [if_neg z] at e
              obtain ⟨r1, r2, r3⟩ := A.liv b u e
              exact ⟨r1, by rw [upd_ne z]; exact r2, r3⟩
          slo := fun b j e n => by
            by_cases z : b = p
            · rw [if_pos z] at e; cases e
            · rw [if_neg z] at e; exact A.slo b j e n
          tm := fun q l e => by
            obtain ⟨xs, e1, e2, e3⟩ := A.tm q l e
            exact ⟨xs, e1, RpL.mono s _ _ e2, by rw [if_neg (ne q _ e3 (fun z => by cases z))]; exact e3⟩
          mu := fun b mo e => (A.mu b mo e).mono s fun q u e1 e2 => ⟨e1, by rw [if_neg (ne q _ e2 (fun z => by cases z))]; exact e2⟩
          len := by rw [st_len]; exact A.len
          sl := fun k sv e => by
            by_cases z : k = i
            · subst z
              have e2 := gt_st_self e
              subst e2
              rw [List.map_cons, List.nodup_cons] at nd
              refine ⟨v, hv, Rp.mono s _ _ rd, nd.2, fun q hq => ?_⟩
              obtain ⟨zs, e1, e2, e3⟩ := hb q (List.mem_cons_of_mem _ hq)
              exact ⟨zs, e1, RpL.mono s _ _ e2, (if_neg (fun y => nd.1 (List.mem_map.mpr ⟨q, hq, y⟩))).trans e3⟩
            · rw [gt_st_ne z] at e
              obtain ⟨u, e1, q⟩ := A.sl k sv e
              exact ⟨u, e1, q.mono s fun q xs e1 e2 => ⟨e1, by rw [if_neg (ne q _ e2 (fun y => z (by cases y; rfl)))]; exact e2⟩⟩ }
theorem Ab.thaw : ∀ {b : Bag} {ρ : Rho} {F : Hp} {O : Own}, Ab K g σ H ρ M F O → gt ρ i = some (.bag d b) → ∃ F' O', Ab K g σ H (st ρ i (.bag d [])) M F' O' ∧ Same F F' ∧ ∀ q ∈ b, ∃ xs, F' q.1 = some (.lst xs) ∧ RpL K F' q.2 xs
  | [], ρ, F, O, A, hi => ⟨F, O, by
      refine A.congr (st_len _ _ _) fun j => ?_
      by_cases z : j = i
      · subst z; rw [gt_st_at hi, hi]
      · rw [gt_st_ne z], Same.refl F, fun q h => by cases h⟩
  | q :: b, ρ, F, O, A, hi => by
    obtain ⟨F1, O1, xs, A1, s1, h1, h2⟩ := A.thaw1 hi
    obtain ⟨F2, O2, A2, s2, h3⟩ := Ab.thaw A1 (gt_st_at hi)
    rw [st_st] at A2
    refine ⟨F2, O2, A2, s1.trans s2, fun q' hq => ?_⟩
    rcases List.mem_cons.mp hq with rfl | hq
    · exact ⟨xs, s2 _ _ h1, RpL.mono s2 _ _ h2⟩
    · exact h3 q' hq
theorem Ab.tell {x y : Sv} (A : Ab K g σ H ρ M F O) (hi : gt ρ i = some x) (h : ∀ v, SvOk K F H O i x v → SvOk K F H O i y v) : Ab K g σ H (st ρ i y) M F O :=
  { toWd := A.toWd, len := by rw [st_len]; exact A.len, sl := fun k sv e => by
      by_cases z : k = i
      · subst z
        have e2 := gt_st_self e
        subst e2
        obtain ⟨v, hv, r⟩ := A.sl k _ hi
        exact ⟨v, hv, h v r⟩
      · rw [gt_st_ne z] at e
        exact A.sl k sv e }
theorem Ab.tellMo {mo mo' : Mo} (A : Ab K g σ H ρ M F O) (hM : M p = some mo) (h : MoOk K F H O p mo → MoOk K F H O p mo') : Ab K g σ H ρ (updM M p mo') F O :=
  { sub := A.sub, ext0 := A.ext0, new := A.new, frm := A.frm, thr := A.thr, liv := A.liv, slo := A.slo, tm := A.tm, len := A.len, sl := A.sl
    mu := fun b m e => by
      by_cases z : b = p
      · subst z
        have e' : m = mo' := (Option.some.inj ((if_pos rfl).symm.trans (show (if b = b then some mo' else M b) = some m from e))).symm
        subst e'
        exact h (A.mu b _ hM)
      · have e' : M b = some m := by
          have := e
          unfold updM at this
          rw [if_neg z] at this
          exact this
        exact A.mu b m e' }
end
def rawL (ps : List Addr) : List D := ps.map fun p => .raw (.ref p)
theorem rpl_rawL' {K : PySem.W.Frag} {F : Hp} : ∀ {ps : List Addr} {xs : List V}, RpL K F (rawL ps) xs → xs = ps.map V.ref
  | [], _, h => h
  | p :: ps, _, ⟨x, r, e1, h, t⟩ => by rw [e1, show x = V.ref p from h, rpl_rawL' t]; rfl
theorem rpl_lsts {K : PySem.W.Frag} {F : Hp} : ∀ {ps : List Addr} {ls : List (List D)}, ps.length = ls.length → (∀ q ∈ ps.zip ls, ∃ xs, F q.1 = some (.lst xs) ∧ RpL K F q.2 xs) → RpL K F (ls.map D.lst) (ps.map V.ref)
  | [], [], _, _ => rfl
  | [], _ :: _, h, _ => by cases h
  | _ :: _, [], h, _ => by cases h
  | p :: ps, l :: ls, h, k => by
    obtain ⟨xs, e1, e2⟩ := k (p, l) (by rw [List.zip_cons_cons]; exact List.mem_cons_self)
    exact ⟨_, _, rfl, ⟨p, xs, rfl, e1, e2⟩, rpl_lsts (Nat.succ.inj h) fun q hq => k q (by rw [List.zip_cons_cons]; exact List.mem_cons_of_mem _ hq)⟩
section
variable {X : Cx} {W : WX} {st1 : Stmt} {ss : List Stmt} {p : PTS}
end
end Px
set_option Elab.async false
set_option linter.all false
set_option maxRecDepth 100000
namespace Px
open PySem PySem.Spec PyProof.Rows L2
section
variable {X : Cx} {W : WX}
theorem zip_get {α β : Type} : ∀ {xs : List α} {ys : List β} {j : Nat} {x : α} {y : β}, xs[j]? = some x → ys[j]? = some y → (xs.zip ys)[j]? = some (x, y)
  | [], _, _, _, _, h, _ => by simp at h
  | _ :: _, [], _, _, _, _, h => by simp at h
  | a :: xs, b :: ys, 0, _, _, h, k => by simp at h k; simp [h, k]
  | a :: xs, b :: ys, j + 1, _, _, h, k => by
    rw [List.zip_cons_cons, List.getElem?_cons_succ]
    exact zip_get (by simpa using h) (by simpa using k)
theorem zip_set {α β : Type} : ∀ {xs : List α} {ys : List β} {j : Nat} {x : α} {y : β}, xs[j]? = some x → (xs.zip ys).set j (x, y) = xs.zip (ys.set j y)
  | [], _, _, _, _, h => by simp at h
  | _ :: _, [], _, _, _, _ => by simp
  | a :: xs, b :: ys, 0, _, _, h => by simp at h; simp [h]
  | a :: xs, b :: ys, j + 1, _, _, h => by
    rw [List.zip_cons_cons, List.set_cons_succ, List.set_cons_succ, List.zip_cons_cons, zip_set (by simpa using h)]
theorem zip_snoc {α β : Type} {x : α} {y : β} : ∀ {xs : List α} {ys : List β}, xs.length = ys.length → (xs ++ [x]).zip (ys ++ [y]) = xs.zip ys ++ [(x, y)]
  | [], [], _ => rfl
  | [], _ :: _, h => by cases h
  | _ :: _, [], h => by cases h
  | a :: xs, b :: ys, h => by
    show (a, b) :: (xs ++ [x]).zip (ys ++ [y]) = (a, b) :: (xs.zip ys ++ [(x, y)])
    rw [zip_snoc (Nat.succ.inj h)]
section
variable {a e : Expr} {pa pe : PTE} {pos pi p1 p2 p3 : Pos}
end
end
section
variable {X : Cx} {W : WX} {pos p p1 : Pos}
end
end Px
set_option Elab.async false
set_option linter.all false
set_option maxRecDepth 100000
namespace Px
open PySem PySem.Spec PyProof.Rows L2
section
variable {X : Cx} {W : WX} {elt tg iter : Expr} {ifs : List Expr} {scope : Scope} {own : List (Str × Nat)} {pos : Pos} {pl : PTA} {gd : PTG} {is vs : List Nat}
end
end Px
set_option Elab.async false
set_option linter.all false
set_option maxRecDepth 100000
namespace Px
open PySem PySem.Spec PyProof.Rows L2
section
variable {K : PySem.W.Frag} {g : Gh} {σ : L2.St} {H : Hp} {ρ : Rho} {M : Mm} {F : Hp} {O : Own} {p : Addr} {i j : Nat} {x y : Sv} {o : HO}
theorem Ab.chgS (A : Ab K g σ H ρ M F O) (hi : gt ρ i = some x) (hO : O p = some (.slot i)) (h : ∀ v, σ[i]? = some (some v) → SvOk K F H O i x v → SvOk K F (upd H p o) O i y v) : Ab K g σ (upd H p o) (st ρ i y) M F O := by
  have ne : ∀ b u, O b = some u → u ≠ .slot i → b ≠ p := fun b u e n z => by rw [z, hO] at e; exact n (Option.some.inj e).symm
  obtain ⟨⟨ox, hx⟩, hF, _⟩ := A.liv p _ hO
  exact { sub := fun b u e => by rw [upd_ne (fun z => by rw [z, hF] at e; cases e)]; exact A.sub b u e
          ext0 := A.ext0, new := A.new
          frm := fun b u e n => by rw [upd_ne (fun z => by rw [z, A.slo p _ hO (fun _ z => by cases z)] at e; cases e)]; exact A.frm b u e n
          thr := fun b u e => by rw [upd_ne (fun z => by rw [z, A.slo p _ hO (fun _ z => by cases z)] at e; cases e)]; exact A.thr b u e
          liv := fun b u e => by
            obtain ⟨r1, r2⟩ := A.liv b u e
            refine ⟨?_, r2⟩
            by_cases z : b = p
            · subst z; exact ⟨_, upd_same⟩
            · rw [upd_ne z]; exact r1
          slo := A.slo
          tm := fun q l e => by
            obtain ⟨xs, e1, e2, e3⟩ := A.tm q l e
            exact ⟨xs, by rw [upd_ne (ne q _ e3 (fun z => by cases z))]; exact e1, e2, e3⟩
          mu := fun b mo e => (A.mu b mo e).mono (Same.refl F) fun q u e1 e2 => ⟨by rw [upd_ne (ne q _ e2 (fun z => by cases z))]; exact e1, e2⟩
          len := by rw [st_len]; exact A.len
          sl := fun k sv e => by
            by_cases z : k = i
            · subst z
              have e2 := gt_st_self e
              subst e2
              obtain ⟨v, hv, r⟩ := A.sl k _ hi
              exact ⟨v, hv, h v hv r⟩
            · rw [gt_st_ne z] at e
              obtain ⟨u, e1, q⟩ := A.sl k sv e
              exact ⟨u, e1, q.mono (Same.refl F) fun q xs e1 e2 => ⟨by rw [upd_ne (ne q _ e2 (fun y => z (by cases y; rfl)))]; exact e1, e2⟩⟩ }
theorem Ab.frzS (A : Ab K g σ H ρ M F O) (hi : gt ρ i = some x) (hO : O p = some (.slot i)) (h : ∀ v, SvOk K F H O i x v → SvOk K (upd F p o) (upd H p o) (fun b => if b = p then none else O b) i y v) :
    Ab K g σ (upd H p o) (st ρ i y) M (upd F p o) (fun b => if b = p then none else O b) := by
  have ne : ∀ b u, O b = some u → u ≠ .slot i → b ≠ p := fun b u e n z => by rw [z, hO] at e; exact n (Option.some.inj e).symm
  obtain ⟨⟨ox, hx⟩, hF, _⟩ := A.liv p _ hO
  have s : Same F (upd F p o) := same_new hF
  have h0 := A.slo p _ hO (fun _ z => by cases z)
  exact { sub := fun b u e => by
            by_cases z : b = p
            · subst z; rw [upd_same] at e ⊢; exact e
            · rw [upd_ne z] at e ⊢; exact A.sub b u e
          ext0 := A.ext0.trans s
          new := fun b u e => by
            by_cases z : b = p
            · subst z; exact .inr h0
            · rw [upd_ne z] at e; exact A.new b u e
          frm := fun b u e n => by rw [upd_ne (fun z => by rw [z, h0] at e; cases e)]; exact A.frm b u e n
          thr := fun b u e => by rw [upd_ne (fun z => by rw [z, h0] at e; cases e)]; exact A.thr b u e
          liv := fun b u e => by
            by_cases z : b = p
            · rw [if_pos z] at e; cases e
            · rw [if_neg z] at e
              obtain ⟨r1, r2, r3⟩ := A.liv b u e
              exact ⟨by rw [upd_ne z]; exact r1, by rw [upd_ne z]; exact r2, r3⟩
          slo := fun b j e n => by
            by_cases z : b = p
            · rw [if_pos z] at e; cases e
            · rw [if_neg z] at e; exact A.slo b j e n
          tm := fun q l e => by
            obtain ⟨xs, e1, e2, e3⟩ := A.tm q l e
            have n := ne q _ e3 (fun z => by cases z)
            exact ⟨xs, by rw [upd_ne n]; exact e1, RpL.mono s _ _ e2, by rw [if_neg n]; exact e3⟩
          mu := fun b mo e => (A.mu b mo e).mono s fun q u e1 e2 => ⟨by rw [upd_ne (ne q _ e2 (fun z => by cases z))]; exact e1, by rw [if_neg (ne q _ e2 (fun z => by cases z))]; exact e2⟩
          len := by rw [st_len]; exact A.len
          sl := fun k sv e => by
            by_cases z : k = i
            · subst z
              have e2 := gt_st_self e
              subst e2
              obtain ⟨v, hv, r⟩ := A.sl k _ hi
              exact ⟨v, hv, h v r⟩
            · rw [gt_st_ne z] at e
              obtain ⟨u, e1, q⟩ := A.sl k sv e
              exact ⟨u, e1, q.mono s fun q xs e1 e2 => ⟨by rw [upd_ne (ne q _ e2 (fun y => z (by cases y; rfl)))]; exact e1, by rw [if_neg (ne q _ e2 (fun y => z (by cases y; rfl)))]; exact e2⟩⟩ }
theorem Ab.know {u : PySem.W.Frag → Addr → Hp → Prop} (A : Ab K g σ H ρ M F O) (hF : ∃ o, F p = some o) (hu : u K p F) : Ab K g σ H ρ (updM M p (.kn u)) F O :=
  { sub := A.sub, ext0 := A.ext0, new := A.new, frm := A.frm, thr := A.thr, liv := A.liv, slo := A.slo, tm := A.tm, len := A.len, sl := A.sl
    mu := fun b m e => by
      by_cases z : b = p
      · subst z
        have e' : m = .kn u := (Option.some.inj ((if_pos rfl).symm.trans (show (if b = b then some (.kn u) else M b) = some m from e))).symm
        subst e'
        exact ⟨F, Same.refl F, hF, hu⟩
      · have e' : M b = some m := by
          have := e
          unfold updM at this
          rw [if_neg z] at this
          exact this
        exact A.mu b m e' }
def bagOf : Sv → Option Bag
  | .bag _ b => some b
  | .dct _ _ b => some b
  | _ => none
def reBag : Sv → Bag → Sv
  | .bag d _, b => .bag d b
  | .dct c kvs _, b => .dct c kvs b
  | x, _ => x
theorem bag_facts {K : PySem.W.Frag} {F H : Hp} {O : Own} {i : Nat} {x : Sv} {b : Bag} {v : V} (hb : bagOf x = some b) (h : SvOk K F H O i x v) : (b.map (·.1)).Nodup ∧ ∀ q ∈ b, ∃ xs, H q.1 = some (.lst xs) ∧ RpL K F q.2 xs ∧ O q.1 = some (.slot i) := by
  cases x with
  | val d => cases hb
  | own l => cases hb
  | bag d b' => cases hb; exact ⟨h.2.1, h.2.2⟩
  | dct c kvs b' => cases hb; exact ⟨h.2.2.2.1, h.2.2.2.2⟩
theorem Ab.chgB2 {b : Bag} {l l' : List D} {ys : List V} (A : Ab K g σ H ρ M F O) (hi : gt ρ i = some x) (hx : bagOf x = some b) (hj : b[j]? = some (p, l)) (r : RpL K F l' ys) :
    Ab K g σ (upd H p (.lst ys)) (st ρ i (reBag x (b.set j (p, l')))) M F O := by
  obtain ⟨v0, hv0, ok0⟩ := A.sl i _ hi
  obtain ⟨nd, hb⟩ := bag_facts hx ok0
  obtain ⟨xs, hp, rl, hO⟩ := hb _ (List.mem_of_getElem? hj)
  have hp : H p = some (.lst xs) := hp
  have hO : O p = some (.slot i) := hO
  have nd' : ((b.set j (p, l')).map (·.1)).Nodup := by rw [List.map_set, set_self (by rw [List.getElem?_map, hj]; rfl)]; exact nd
  have ok' : ∀ q ∈ b.set j (p, l'), ∃ xs, upd H p (.lst ys) q.1 = some (.lst xs) ∧ RpL K F q.2 xs ∧ O q.1 = some (.slot i) := fun q hq => by
    obtain ⟨m, hm⟩ := List.mem_iff_getElem?.mp hq
    by_cases z : m = j
    · subst z
      have hjl : m < b.length := (List.getElem?_eq_some_iff.mp hj).1
      rw [List.getElem?_set_self hjl] at hm
      cases hm
      exact ⟨ys, upd_same, r, hO⟩
    · rw [List.getElem?_set_ne (Ne.symm z)] at hm
      obtain ⟨zs, e1, e2, e3⟩ := hb q (List.mem_of_getElem? hm)
      refine ⟨zs, ?_, e2, e3⟩
      rw [upd_ne]
      · exact e1
      · intro y
        have h1 : (b.map (·.1))[m]? = some p := by rw [List.getElem?_map, hm]; exact congrArg some y
        have h2 : (b.map (·.1))[j]? = some p := by rw [List.getElem?_map, hj]; rfl
        have hml : m < (b.map (·.1)).length := (List.getElem?_eq_some_iff.mp h1).1
        exact z ((List.getElem?_inj hml nd).mp (h1.trans h2.symm))
  refine A.chgS hi hO fun v _ ok => ?_
  cases x with
  | val d => cases hx
  | own l => cases hx
  | bag d b' => cases hx; exact ⟨ok.1, nd', ok'⟩
  | dct c kvs b' =>
    cases hx
    obtain ⟨o1, o2, ⟨zs, o3, o4, o5⟩, _⟩ := ok
    exact ⟨o1, o2, ⟨zs, by rw [upd_ne (fun z => by rw [z, hp] at o3; cases o3)]; exact o3, o4, o5⟩, nd', ok'⟩
theorem Ab.addD {c : Addr} {kvs : List (D × D)} {b : Bag} {l : List D} {xs : List V} (A : Ab K g σ H ρ M F O) (hi : gt ρ i = some (.dct c kvs b)) (h : H p = some (.lst xs)) (r : RpL K F l xs) (hF : F p = none) (hO : O p = none) (h0 : g.H0 p = none) :
    Ab K g σ H (st ρ i (.dct c kvs (b ++ [(p, l)]))) M F (fun q => if q = p then some (.slot i) else O q) := by
  have keep : ∀ b u, O b = some u → (if b = p then some (Ow.slot i) else O b) = some u := fun b u e => by rw [if_neg (fun z => by rw [z, hO] at e; cases e)]; exact e
  exact { sub := A.sub, ext0 := A.ext0, new := A.new, frm := A.frm, thr := A.thr
          liv := fun b u e => by
            by_cases z : b = p
            · subst z; exact ⟨⟨_, h⟩, hF, .inr h0⟩
            · rw [if_neg z] at e; exact A.liv b u e
          slo := fun b u e n => by
            by_cases z : b = p
            · subst z; exact h0
            · rw [if_neg z] at e; exact A.slo b u e n
          tm := fun q l e => by
            obtain ⟨xs, e1, e2, e3⟩ := A.tm q l e
            exact ⟨xs, e1, e2, keep q _ e3⟩
          mu := fun b mo e => (A.mu b mo e).mono (Same.refl F) fun q u e1 e2 => ⟨e1, keep q _ e2⟩
          len := by rw [st_len]; exact A.len
          sl := fun k sv e => by
            by_cases z : k = i
            · subst z
              have e2 := gt_st_self e
              subst e2
              obtain ⟨v, hv, o1, o2, o3, nd, hb⟩ := A.sl k _ hi
              refine ⟨v, hv, o1, keep _ _ o2, o3, ?_, fun q hq => ?_⟩
              · rw [List.map_append, List.nodup_append]
                refine ⟨nd, by simp, fun a ha c hc e => ?_⟩
                obtain ⟨q, hq, e1⟩ := List.mem_map.mp ha
                obtain ⟨_, _, _, e3⟩ := hb q hq
                have : c = p := by simpa using hc
                rw [e1, e, this, hO] at e3
                cases e3
              · rcases List.mem_append.mp hq with y | y
                · obtain ⟨zs, e1, e2, e3⟩ := hb q y
                  exact ⟨zs, e1, e2, keep _ _ e3⟩
                · have : q = (p, l) := by simpa using y
                  subst this
                  exact ⟨xs, h, r, if_pos rfl⟩
            · rw [gt_st_ne z] at e
              obtain ⟨u, e1, q⟩ := A.sl k sv e
              exact ⟨u, e1, q.mono (Same.refl F) fun q xs e1 e2 => ⟨e1, keep q _ e2⟩⟩ }
theorem Ab.thawD {c : Addr} {kvs : List (D × D)} : ∀ {b : Bag} {ρ : Rho} {F : Hp} {O : Own}, Ab K g σ H ρ M F O → gt ρ i = some (.dct c kvs b) → ∃ F' O', Ab K g σ H (st ρ i (.dct c kvs [])) M F' O' ∧ Same F F' ∧ ∀ q ∈ b, ∃ xs, F' q.1 = some (.lst xs) ∧ RpL K F' q.2 xs
  | [], ρ, F, O, A, hi => ⟨F, O, by
      refine A.congr (st_len _ _ _) fun j => ?_
      by_cases z : j = i
      · subst z; rw [gt_st_at hi, hi]
      · rw [gt_st_ne z], Same.refl F, fun q h => by cases h⟩
  | (p, l) :: b, ρ, F, O, A, hi => by
    obtain ⟨v, hv, o1, o2, ⟨ys, o3, o4, o5⟩, nd, hb⟩ := A.sl i _ hi
    obtain ⟨xs, hp, rl, hO⟩ := hb _ List.mem_cons_self
    have hp : H p = some (.lst xs) := hp
    have hO : O p = some (.slot i) := hO
    have hF : F p = none := (A.liv p _ hO).2.1
    have s : Same F (upd F p (.lst xs)) := same_new hF
    have hcp : c ≠ p := fun z => by rw [z, hp] at o3; cases o3
    have eH : upd H p (.lst xs) = H := by
      funext a
      by_cases z : a = p
      · rw [z, upd_same, hp]
      · rw [upd_ne z]
    rw [List.map_cons, List.nodup_cons] at nd
    have A1 := A.frzS (o := .lst xs) (y := .dct c kvs b) hi hO fun v ⟨_, _, _, _, _⟩ => ⟨by assumption, (if_neg hcp).trans o2, ⟨ys, by rw [eH]; exact o3, o4, DRel.mono s _ _ o5⟩, nd.2, fun q hq => by
      obtain ⟨zs, e1, e2, e3⟩ := hb q (List.mem_cons_of_mem _ hq)
      exact ⟨zs, by rw [eH]; exact e1, RpL.mono s _ _ e2, (if_neg (fun y => nd.1 (List.mem_map.mpr ⟨q, hq, y⟩))).trans e3⟩⟩
    rw [eH] at A1
    obtain ⟨F2, O2, A2, s2, h3⟩ := Ab.thawD A1 (gt_st_at hi)
    rw [st_st] at A2
    refine ⟨F2, O2, A2, s.trans s2, fun q' hq => ?_⟩
    rcases List.mem_cons.mp hq with rfl | hq
    · exact ⟨xs, s2 _ _ upd_same, RpL.mono (s.trans s2) _ _ rl⟩
    · exact h3 q' hq
end
section
variable {X : Cx} {pins : List (Addr × Obj)} {σ : L2.St} {H F : Hp} {s : Shared}
theorem dk_new {p : Addr} {kvs : List (D × D)} {xs : KEnts} {h' : Heap} {o : Obj} {es : Array DictEntry} {ep : Nat} (z1 : (p == sysModules) = false) (dr' : DRel X.K F kvs xs) (h5 : (xs.map (·.1)).Nodup) (hq : h'.get? p = some o) (h2 : o.ExactDict) (h3 : o.data = .dict es ep)
    (h4 : es.toList = xs.map fun x => ⟨x.1.hash X.w, .ref x.2.1, x.2.2⟩) : ObjOk X.prog X.w (upd H p (dkO p xs)) h' p (dkO p xs) := by
  have all : ∀ {kvs : List (D × D)} {xs : KEnts}, DRel X.K F kvs xs → ∀ x ∈ xs, ntK x.1 = true := by
    intro kvs
    induction kvs with
    | nil => intro xs r x hx; rw [show xs = [] from r] at hx; cases hx
    | cons p r ih =>
      intro xs q x hx
      obtain ⟨y, ys, v, rfl, e2, e3, e4, e5, e6, e7⟩ := q
      rcases List.mem_cons.mp hx with rfl | hx
      · exact nt_nk _ _ e2
      · exact ih e7 x hx
  refine dk_ok ⟨z1, all dr', h5, o, es, ep, hq, h2, h3, fun w' => ?_⟩
  rw [h4]
  refine List.map_congr_left fun y hy => ?_
  show (⟨y.1.hash X.w, .ref y.2.1, y.2.2⟩ : DictEntry) = _
  rw [hash_nt X.w w' _ (all dr' y hy)]
end
def tSetdN (K : PySem.W.Frag) (td ty tx : TE) : TE := fun σ H Q => td σ H fun u H1 => ∃ p, u = .ref p ∧ (∃ xs, H1 p = some (dkO p xs)) ∧ ty σ H1 fun y H2 => tx σ H2 fun z H3 =>
  ∃ (F : Hp) (kvs : List (D × D)) (xs : KEnts) (d : D) (k : NestedKey) (c : Addr) (dv : D), y = .ref c ∧ Same F H3 ∧ H3 p = some (dkO p xs) ∧ DRel K F kvs xs ∧ nkOf d = some k ∧ k.depth ≤ 8 ∧ Rp K F d (.ref c) ∧ Rp K F dv z ∧ kvs.length < 1000000 ∧
  (∀ e v, lookK kvs k = some e → Rp K F e v → Q v H3) ∧ (hasK kvs k = false → ∀ xs', DRel K F (kvs ++ [(d, dv)]) xs' → Q z (upd H3 p (dkO p xs')))
theorem look_has (kvs : List (D × D)) (k : NestedKey) : (lookK kvs k).isSome = hasK kvs k := by
  unfold lookK hasK
  rw [Option.isSome_map]
  cases e : kvs.find? (sameK k) with
  | none =>
    rw [List.find?_eq_none] at e
    symm
    show kvs.any (sameK k) = false
    rw [List.any_eq_false]
    exact fun x hx => by simpa using e x hx
  | some x =>
    symm
    show kvs.any (sameK k) = true
    rw [List.any_eq_true]
    exact ⟨x, List.mem_of_find?_eq_some e, List.find?_some e⟩
section
variable {X : Cx} {W : WX} {o e f : Expr} {td ty tx : TE} {apos cpos : Pos}
theorem pe_setdN (hu : X.A.units + 9 < cLine) (ho : PE X o td) (he : PE X e ty) (hf : PE X f tx) (m : M2 X o "setdefault" apos e f cpos) : PE X (.Call (.Attribute o "setdefault" apos) [e, f] [] cpos) (tSetdN X.K td ty tx) := by
  refine ⟨fun pins s σ H Q I h => ?_⟩
  refine wpAny_Call_method m.base m.few m.line PySem.F.plainAttrs_dict PySem.F.slot_dict_setdefault PySem.F.type_dict_setdefault (thn (ho.run pins s σ H _ I h) fun u s1 ⟨x, H1, I1, rx, p, ex, ⟨xs0, d⟩, q1⟩ => ?_)
  subst ex
  obtain rfl : u = Value.ref p := rx
  obtain ⟨⟨_, _, _, ob, _, _, g1, g2, _⟩, _, _⟩ := (show ObjOk X.prog X.w H1 s1.heap p (dkO p xs0) from I1.hok p _ d)
  refine ⟨⟨ob, g1, g2.1⟩, fun a e2 => by cases e2; exact ⟨ob, g1, g2.2.1⟩, ?_⟩
  rw [m.trees]
  refine Calls.callWith_builtin rfl (Calls.evalArgs_plain (Calls.spliced_cons (thn (he.run pins s1 σ H1 _ I1 q1) fun iv s2 ⟨y, H2, I2, ry, q2⟩ =>
    Calls.spliced_cons (thn (hf.run pins s2 σ H2 _ I2 q2) fun fv s3 ⟨z, H3, I3, rz, F, kvs, xs, d, k, c, dv, ey, sm, e3, dr, hk, hd, rd, rdv, hl, q3, q4⟩ => Calls.spliced_nil ?_))))
  subst ey
  cases (show iv = .ref c from ry)
  obtain ⟨z1, z2⟩ := dk_is I3 sm e3 dr
  have hz : xs.length ≤ sizeLine := by rw [← drel_len dr]; exact Nat.le_trans (Nat.le_of_lt hl) (by decide)
  refine call_setdefault_heap (hsz := hz) (room_n hu) ⟨nested_is I3 sm d k _ _ hk rd rfl, hd⟩ z1 z2 (fun pv hp => ?_) fun hn h' dd' hs => ?_
  · have hs : hasK kvs k = true := by rw [← drel_key k dr, hp]; rfl
    rw [← look_has] at hs
    obtain ⟨e', he'⟩ := Option.isSome_iff_exists.mp hs
    obtain ⟨y', hy', v, rv, rvv⟩ := drel_look k dr he'
    rw [hp] at hy'
    cases hy'
    exact ⟨v, H3, I3.tok _, rvv, q3 e' v he' rv⟩
  · have hs0 : hasK kvs k = false := by rw [← drel_key k dr, hn]; rfl
    obtain ⟨o, es, ep, hq, h2, h3, h4, h6, h5⟩ := dd'
    have dr' := drel_put dr hk hd rd rdv rz
    have ep : putD kvs d dv k = kvs ++ [(d, dv)] := by unfold putD; rw [hs0, if_neg (by simp)]
    rw [ep] at dr'
    refine ⟨z, upd H3 p (dkO p (storedH xs k c fv)), d_write I3 (by rw [e3]; exact True.intro) hs ⟨o, hq⟩ (dk_new (F := F) z1 dr' h5 hq h2 h3 h4), rz, q4 hs0 _ dr'⟩
end
def keyAt : List D → NestedKey → Option Nat
  | [], _ => none
  | d :: r, k => if nkOf d = some k then some 0 else (keyAt r k).map (· + 1)
theorem hasK_zip : ∀ {ks : List D} {ps : List Addr} (k : NestedKey), ks.length = ps.length → hasK (ks.zip (rawL ps)) k = (keyAt ks k).isSome
  | [], [], _, _ => rfl
  | [], _ :: _, _, h => by cases h
  | _ :: _, [], _, h => by cases h
  | d :: ks, p :: ps, k, h => by
    have ih := hasK_zip (ks := ks) (ps := ps) k (Nat.succ.inj h)
    unfold hasK at ih ⊢
    show (sameK k (d, .raw (.ref p)) || (ks.zip (rawL ps)).any (sameK k)) = (if nkOf d = some k then some 0 else (keyAt ks k).map (· + 1)).isSome
    rw [ih]
    unfold sameK
    by_cases c : nkOf d = some k
    · simp [c]
    · simp [c]
theorem lookK_zip : ∀ {ks : List D} {ps : List Addr} {k : NestedKey} {e : D}, ks.length = ps.length → lookK (ks.zip (rawL ps)) k = some e → ∃ j p, keyAt ks k = some j ∧ ps[j]? = some p ∧ e = .raw (.ref p)
  | [], [], _, _, _, h => by cases h
  | [], _ :: _, _, _, h, _ => by cases h
  | _ :: _, [], _, _, h, _ => by cases h
  | d :: ks, p :: ps, k, e, h, q => by
    unfold lookK at q
    have q : (((d, D.raw (.ref p)) :: ks.zip (rawL ps)).find? (sameK k)).map (·.2) = some e := q
    unfold keyAt
    rw [List.find?_cons] at q
    by_cases c : nkOf d = some k
    · rw [show sameK k (d, D.raw (.ref p)) = true by unfold sameK; simp [c]] at q
      rw [if_pos c]
      exact ⟨0, p, rfl, rfl, (Option.some.inj q).symm⟩
    · rw [show sameK k (d, D.raw (.ref p)) = false by unfold sameK; simp [c]] at q
      obtain ⟨j, p', h1, h2, h3⟩ := lookK_zip (ks := ks) (ps := ps) (k := k) (Nat.succ.inj h) q
      rw [if_neg c, h1]
      exact ⟨j + 1, p', rfl, by rw [List.getElem?_cons_succ]; exact h2, h3⟩
def keyIn : List Key → Key → Option Nat
  | [], _ => none
  | d :: r, k => if d = k then some 0 else (keyIn r k).map (· + 1)
theorem getDK_zip : ∀ {ks : List Key} {ps : List Addr} (k : Key), ks.length = ps.length → (keyIn ks k = none ∧ getDK (ks.zip (rawL ps)) k = none) ∨ ∃ j p, keyIn ks k = some j ∧ ps[j]? = some p ∧ getDK (ks.zip (rawL ps)) k = some (.raw (.ref p))
  | [], [], _, _ => .inl ⟨rfl, rfl⟩
  | [], _ :: _, _, h => by cases h
  | _ :: _, [], _, h => by cases h
  | d :: ks, p :: ps, k, h => by
    show (keyIn (d :: ks) k = none ∧ getDK ((d, D.raw (.ref p)) :: ks.zip (rawL ps)) k = none) ∨ ∃ j p', keyIn (d :: ks) k = some j ∧ (p :: ps)[j]? = some p' ∧ getDK ((d, D.raw (.ref p)) :: ks.zip (rawL ps)) k = some (.raw (.ref p'))
    unfold keyIn
    by_cases c : d = k
    · rw [if_pos c, getDK_pos (p := (d, D.raw (.ref p))) c]
      exact .inr ⟨0, p, rfl, rfl, rfl⟩
    · rw [if_neg c, getDK_neg (p := (d, D.raw (.ref p))) c]
      rcases getDK_zip (ks := ks) (ps := ps) k (Nat.succ.inj h) with ⟨h1, h2⟩ | ⟨j, p', h1, h2, h3⟩
      · rw [h1]; exact .inl ⟨rfl, h2⟩
      · rw [h1]; exact .inr ⟨j + 1, p', rfl, by rw [List.getElem?_cons_succ]; exact h2, h3⟩
theorem set_snoc {α : Type} {a b : α} : ∀ (l : List α), (l ++ [a]).set l.length b = l ++ [b]
  | [] => rfl
  | x :: l => congrArg _ (set_snoc l)
theorem get_snoc {α : Type} {a : α} (l : List α) : (l ++ [a])[l.length]? = some a := by simp
theorem rawL_snoc (ps : List Addr) (p : Addr) : rawL (ps ++ [p]) = rawL ps ++ [.raw (.ref p)] := by unfold rawL; rw [List.map_append]; rfl
theorem rawL_len (ps : List Addr) : (rawL ps).length = ps.length := by unfold rawL; rw [List.length_map]
def bagD (c : Addr) (ps : List Addr) (ls : List (List D)) : Sv := .bag (.raw (.ref c)) (ps.zip ls)
def dctL (c : Addr) (ks : List D) (ps : List Addr) (ls : List (List D)) : Sv := .dct c (ks.zip (rawL ps)) (ps.zip ls)
def dikB (ks : List Key) (ps : List Addr) : Mo := .dik (ks.zip (rawL ps))
def dSdA (i : Nat) (pk pe : PTE) : PTS := fun w P ρ M => ∃ c ps ks ls, gt ρ i = some (dctL c ks ps ls) ∧ ps.length = ls.length ∧ ks.length = ps.length ∧ pk w ρ M fun x M1 => ks.length < 1000000 ∧ asKey x fun k =>
  (∀ j, keyAt ks k = some j → ∃ l, ls[j]? = some l ∧ pe w ρ M1 fun v M2 => l.length < 1000000 ∧ P.nx (st ρ i (dctL c ks ps (ls.set j (l ++ [v])))) M2) ∧
  (keyAt ks k = none → ∀ p, pe w (st ρ i (dctL c (ks ++ [x]) (ps ++ [p]) (ls ++ [[]]))) M1 fun v M2 => P.nx (st ρ i (dctL c (ks ++ [x]) (ps ++ [p]) (ls ++ [[v]]))) M2)
def dSdK (i : Nat) (pk pe : PTE) : PTS := fun w P ρ M => ∃ c ps ks ls, gt ρ i = some (bagD c ps ls) ∧ ps.length = ls.length ∧ ks.length = ps.length ∧ M c = some (dikB ks ps) ∧ pk w ρ M fun x M1 => M1 c = some (dikB ks ps) ∧ ks.length < 1000000 ∧ ∃ k, keyD x = some k ∧
  (∀ j, keyIn ks k = some j → ∃ l, ls[j]? = some l ∧ pe w ρ M1 fun v M2 => l.length < 1000000 ∧ P.nx (st ρ i (bagD c ps (ls.set j (l ++ [v])))) M2) ∧
  (keyIn ks k = none → ∀ p, pe w (st ρ i (bagD c (ps ++ [p]) (ls ++ [[]]))) (updM M1 c (dikB (ks ++ [k]) (ps ++ [p]))) fun v M2 => P.nx (st ρ i (bagD c (ps ++ [p]) (ls ++ [[v]]))) M2)
section
variable {X : Cx} {W : WX} {kx e : Expr} {pk pe : PTE} {pos pz p1 p2 p3 p4 p5 : Pos}
theorem bag_app {g : Gh} {σ : L2.St} {H : Hp} {ρ : Rho} {M : Mm} {F : Hp} {O : Own} {w : PWi} {i j : Nat} {x : Sv} {p : Addr} {ps : List Addr} {ls : List (List D)} {l : List D} {R : Rho → Mm → Prop} {Q : VK}
    (A : Ab X.K g σ H ρ M F O) (hg : gt ρ i = some x) (hx : bagOf x = some (ps.zip ls)) (hp : ps[j]? = some p) (hl : ls[j]? = some l) (hw : WOk X.K g F W w) (h : pe w ρ M fun v M2 => l.length < 1000000 ∧ R (st ρ i (reBag x (ps.zip (ls.set j (l ++ [v]))))) M2)
    (k : ∀ H' M' F' O' ρ', Ab X.K g σ H' ρ' M' F' O' → Same F F' → R ρ' M' → Q .non H') :
    tyV X.K "list" (.ref p) H ∧ tCons (real X.K W pe) tNil σ H fun xs H2 => rAppend (.ref p) xs H2 Q := by
  have hz : (ps.zip ls)[j]? = some (p, l) := zip_get hp hl
  obtain ⟨v1, _, ok1⟩ := A.sl i _ hg
  obtain ⟨_, hb1⟩ := bag_facts hx ok1
  obtain ⟨ys, e2, ry, hO⟩ := hb1 _ (List.mem_of_getElem? hz)
  refine ⟨.inl ⟨rfl, ys, .inl (.inl e2)⟩, g, ρ, M, F, O, _, w, A, h, hw, fun v H2 F2 O2 M2 dv A2 s2 r2 ⟨hz2, q2⟩ => ?_⟩
  obtain ⟨v3, _, ok2⟩ := A2.sl i _ hg
  obtain ⟨_, hb2⟩ := bag_facts hx ok2
  obtain ⟨zs, e3, rz, hO2⟩ := hb2 _ (List.mem_of_getElem? hz)
  refine ⟨p, zs, v, rfl, rfl, e3, by rw [← RpL.len rz]; exact line_lt hz2, ?_⟩
  have A3 := A2.chgB2 (l' := l ++ [dv]) hg hx hz (rz.app (show RpL X.K F2 [dv] [v] from ⟨v, [], rfl, r2, rfl⟩))
  rw [zip_set hp] at A3
  exact k _ M2 F2 O2 _ A3 s2 q2
theorem ds_sdA (i : Nat) {x : Str} (hu : X.A.units + 9 < cLine) (hk : DE X W kx pk) (he : DE X W e pe)
    (hN : X.N[i]? = some x := by rfl) (hv : Vis X.env.scope x := by first | exact Or.inl rfl | exact Or.inr (Or.inl rfl) | exact Or.inr (Or.inr rfl)) (hd : (x == ("__debug__" : Str)) = false := by decide)
    (hcd : (x == ("__classdict__" : Str)) = false := by decide) (hs : starEach [e] X.env = (false, eval e X.env) :: starEach [] X.env := by rfl)
    (hbase : attributeBase (.Call (.Attribute (.Name x p1) "setdefault" p2) [kx, .List [] pz] [] p3) "append" X.env (eval (.Call (.Attribute (.Name x p1) "setdefault" p2) [kx, .List [] pz] [] p3) X.env) = eval (.Call (.Attribute (.Name x p1) "setdefault" p2) [kx, .List [] pz] [] p3) X.env := by rfl)
    (hfew : ((backTo p5 (starEach [e] X.env)).all (fun x => !x.1) && (backToKw p5 (keywordEach [] X.env)).all (fun x => x.1.isSome)
      && decide ([e].length + ([] : List Keyword).length + (if ([] : List Keyword).isEmpty then 0 else 1) < 30)) = true := by rfl)
    (hline : (p4.endLine == p5.line) = true := by rfl) (hplain : (backTo p5 (starEach [] X.env)).any (·.1) = false := by rfl)
    (m : M2 X (.Name x p1) "setdefault" p2 kx (.List [] pz) p3 := by exact ⟨by rfl, by rfl, by rfl, by rfl⟩) :
    DS X W (.Expr (.Call (.Attribute (.Call (.Attribute (.Name x p1) "setdefault" p2) [kx, .List [] pz] [] p3) "append" p4) [e] [] p5) pos) (dSdA i pk pe) :=
  ps_imp (ps_expr (pe_bm PySem.F.plainAttrs_list PySem.F.slot_list_append PySem.F.type_list_append mt_append (pe_setdN hu (pv i hN hv hd hcd) hk (pe_lst pa_nil) m) (pa_cons he pa_nil hs) hbase hfew hline hs hplain))
    fun D σ H ⟨g, ρ, M, F, O, P, w, A, ⟨c, ps, ks, ls, hg, hpl, hkl, h⟩, hw, k1, _⟩ => by
    obtain ⟨v0, hv0, r0, _, ⟨xs0, d1, _⟩, _⟩ := A.sl i _ hg
    subst r0
    refine ⟨.ref c, hv0, c, rfl, ⟨xs0, d1⟩, g, ρ, M, F, O, _, w, A, h, hw, fun u H1 F1 O1 M1 x A1 s1 r1 ⟨hz, q1⟩ => ⟨by show 0 ≤ sizeLine; decide, fun p hp => ?_⟩⟩
    obtain ⟨l, nk, rfl, hk, hd, q2, q3⟩ := asKey_of q1
    obtain ⟨v1, hv1, _, e2, ⟨xs, e1, e3, e4⟩, _⟩ := A1.sl i _ hg
    obtain ⟨b', ys, eb, _⟩ := id r1
    subst eb
    have hpc : c ≠ p := fun z => by rw [← z, e1] at hp; cases hp
    have A2 := A1.laid (o := .lst []) hp
    refine ⟨F1, _, xs, .tup l, nk, b', .raw (.ref p), rfl, A2.sub, by rw [upd_ne hpc]; exact e1, e4, hk, hd, r1, rfl, by rw [List.length_zip, rawL_len, hkl, Nat.min_self]; omega, fun e' v he' re => ?_, fun hn xs' dr' => ?_⟩
    · obtain ⟨j, p', h1, h2, h3⟩ := lookK_zip hkl he'
      subst h3
      have re : v = .ref p' := re
      subst re
      obtain ⟨lj, h4, h5⟩ := q2 j h1
      exact bag_app (R := P.nx) A2 hg rfl h2 h4 (hw.mono s1) h5 fun H' M' F' O' ρ' A' s' q' => k1 _ _ _ _ F' O' A' (s1.trans s') q'
    · rw [hasK_zip nk hkl] at hn
      have hn : keyAt ks nk = none := by cases z : keyAt ks nk with | none => rfl | some _ => rw [z] at hn; cases hn
      have A3 := A2.addD (l := []) hg upd_same rfl (A1.f0 hp) (A1.o0 hp) (A1.g0 hp)
      rw [← zip_snoc hpl] at A3
      have A4 := A3.chgS (p := c) (o := dkO c xs') (y := dctL c (ks ++ [.tup l]) (ps ++ [p]) (ls ++ [[]])) (gt_st_at hg) ((if_neg hpc).trans e2) fun v hv ⟨o1, o2, _, o4, o5⟩ => ⟨o1, o2, ⟨xs', upd_same, by
        rw [rawL_snoc, List.length_zip, List.length_append, List.length_append, rawL_len, hkl]; simp; omega, by rw [rawL_snoc, zip_snoc (by rw [rawL_len]; exact hkl)]; exact dr'⟩, o4, fun q hq => by
          obtain ⟨zs, f1, f2, f3⟩ := o5 q hq
          refine ⟨zs, ?_, f2, f3⟩
          rw [upd_ne]
          · exact f1
          · intro z
            rw [z, upd_ne hpc, e1] at f1
            cases f1⟩
      rw [st_st] at A4
      refine bag_app (R := fun ρ' M' => P.nx (ρ') M') (j := ps.length) (l := []) A4 (gt_st_at hg) rfl (get_snoc ps) (by rw [hpl]; exact get_snoc ls) (hw.mono s1) ?_ fun H' M' F' O' ρ' A' s' q' => k1 _ _ _ _ F' O' A' (s1.trans s') q'
      have eqp : (fun (v : Px.D) (M2 : Mm) => P.nx (st ρ i (dctL c (ks ++ [.tup l]) (ps ++ [p]) (ls ++ [[v]]))) M2) = fun v M2 => ([] : List Px.D).length < 1000000 ∧ P.nx (st (st ρ i (dctL c (ks ++ [.tup l]) (ps ++ [p]) (ls ++ [[]]))) i (dctL c (ks ++ [.tup l]) (ps ++ [p]) ((ls ++ [[]]).set ps.length ([] ++ [v])))) M2 := by
        funext v M2
        rw [st_st, hpl, set_snoc]
        exact propext ⟨fun z => ⟨by decide, z⟩, fun z => z.2⟩
      have q4 := q3 hn p
      rw [eqp] at q4
      exact q4
theorem ds_sdK (i : Nat) {x : Str} (hk : DE X W kx pk) (he : DE X W e pe)
    (hN : X.N[i]? = some x := by rfl) (hv : Vis X.env.scope x := by first | exact Or.inl rfl | exact Or.inr (Or.inl rfl) | exact Or.inr (Or.inr rfl)) (hd : (x == ("__debug__" : Str)) = false := by decide)
    (hcd : (x == ("__classdict__" : Str)) = false := by decide) (hs : starEach [e] X.env = (false, eval e X.env) :: starEach [] X.env := by rfl)
    (hbase : attributeBase (.Call (.Attribute (.Name x p1) "setdefault" p2) [kx, .List [] pz] [] p3) "append" X.env (eval (.Call (.Attribute (.Name x p1) "setdefault" p2) [kx, .List [] pz] [] p3) X.env) = eval (.Call (.Attribute (.Name x p1) "setdefault" p2) [kx, .List [] pz] [] p3) X.env := by rfl)
    (hfew : ((backTo p5 (starEach [e] X.env)).all (fun x => !x.1) && (backToKw p5 (keywordEach [] X.env)).all (fun x => x.1.isSome)
      && decide ([e].length + ([] : List Keyword).length + (if ([] : List Keyword).isEmpty then 0 else 1) < 30)) = true := by rfl)
    (hline : (p4.endLine == p5.line) = true := by rfl) (hplain : (backTo p5 (starEach [] X.env)).any (·.1) = false := by rfl)
    (m : M2 X (.Name x p1) "setdefault" p2 kx (.List [] pz) p3 := by exact ⟨by rfl, by rfl, by rfl, by rfl⟩) :
    DS X W (.Expr (.Call (.Attribute (.Call (.Attribute (.Name x p1) "setdefault" p2) [kx, .List [] pz] [] p3) "append" p4) [e] [] p5) pos) (dSdK i pk pe) :=
  ps_imp (ps_expr (pe_bm PySem.F.plainAttrs_list PySem.F.slot_list_append PySem.F.type_list_append mt_append (pe_dsetd (pv i hN hv hd hcd) hk (pe_lst pa_nil) m) (pa_cons he pa_nil hs) hbase hfew hline hs hplain))
    fun D σ H ⟨g, ρ, M, F, O, P, w, A, ⟨c, ps, ks, ls, hg, hpl, hkl, hM, h⟩, hw, k1, _⟩ => by
    obtain ⟨v0, hv0, r0, _, _⟩ := A.sl i _ hg
    have r0 : v0 = .ref c := r0
    subst r0
    obtain ⟨xs0, d1, _⟩ := A.mu c _ hM
    refine ⟨.ref c, hv0, c, rfl, .inl ⟨xs0, .inl d1⟩, g, ρ, M, F, O, _, w, A, h, hw, fun u H1 F1 O1 M1 x A1 s1 r1 ⟨hM1, hz, k, hk, q2, q3⟩ => ⟨by show 0 ≤ sizeLine; decide, fun p hp => ?_⟩⟩
    obtain ⟨xs, e1, e2, e3, e4⟩ := A1.mu c _ hM1
    have hpc : c ≠ p := fun z => by rw [← z, e1] at hp; cases hp
    have A2 := A1.laid (o := .lst []) hp
    have hzl : (ks.zip (rawL ps)).length = ks.length := by rw [List.length_zip, rawL_len, hkl, Nat.min_self]
    have hxl : xs.length = ks.length := by rw [← hzl, ← List.length_map (f := (·.1)) (as := xs), e3, List.length_map]
    have hgk := getDK_rel (k := k) e3 e4
    refine ⟨xs, k, by rw [upd_ne hpc]; exact e1, keyD_is hk r1, by rw [hxl]; exact line_lt hz, fun v hv => ?_, fun hn => ?_⟩
    · rcases getDK_zip k hkl with ⟨h1, h2⟩ | ⟨j, p', h1, h2, h3⟩
      · rw [h2] at hgk
        rw [show valV xs k = none from hgk] at hv
        cases hv
      · rw [h3] at hgk
        obtain ⟨v', hv', re⟩ := hgk
        rw [hv'] at hv
        cases hv
        have re : v = .ref p' := re
        subst re
        obtain ⟨lj, h4, h5⟩ := q2 j h1
        exact bag_app (R := P.nx) A2 hg rfl h2 h4 (hw.mono s1) h5 fun H' M' F' O' ρ' A' s' q' => k1 _ _ _ _ F' O' A' (s1.trans s') q'
    · rcases getDK_zip k hkl with ⟨h1, h2⟩ | ⟨j, p', h1, h2, h3⟩
      · have A3 := A2.addB (l := []) hg upd_same rfl (A1.f0 hp) (A1.o0 hp) (A1.g0 hp)
        rw [← zip_snoc hpl] at A3
        have hpt := putDK_rel (k := k) (d := .raw (.ref p)) (v := .ref p) (K := X.K) (F := F1) rfl e3 e4
        have ep : putDK (ks.zip (rawL ps)) k (.raw (.ref p)) = (ks ++ [k]).zip (rawL (ps ++ [p])) := by
          unfold putDK
          rw [any_DK, h2, if_neg (by simp), rawL_snoc, zip_snoc (by rw [rawL_len]; exact hkl)]
        rw [ep] at hpt
        have A4 := A3.setMo (o := .dK (putK xs k (.ref p))) (mo' := dikB (ks ++ [k]) (ps ++ [p])) hM1 ((if_neg hpc).trans e2) ⟨_, upd_same, (if_neg hpc).trans e2, hpt.1, hpt.2⟩
        refine bag_app (R := fun ρ' M' => P.nx (ρ') M') (j := ps.length) (l := []) A4 (gt_st_at hg) rfl (get_snoc ps) (by rw [hpl]; exact get_snoc ls) (hw.mono s1) ?_ fun H' M' F' O' ρ' A' s' q' => k1 _ _ _ _ F' O' A' (s1.trans s') q'
        have eqp : (fun (v : Px.D) (M2 : Mm) => P.nx (st ρ i (bagD c (ps ++ [p]) (ls ++ [[v]]))) M2) = fun v M2 => ([] : List Px.D).length < 1000000 ∧ P.nx (st (st ρ i (bagD c (ps ++ [p]) (ls ++ [[]]))) i (bagD c (ps ++ [p]) ((ls ++ [[]]).set ps.length ([] ++ [v])))) M2 := by
          funext v M2
          rw [st_st, hpl, set_snoc]
          exact propext ⟨fun z => ⟨by decide, z⟩, fun z => z.2⟩
        have q4 := q3 h1 p
        rw [eqp] at q4
        exact q4
      · rw [h3] at hgk
        obtain ⟨v', hv', _⟩ := hgk
        rw [hv'] at hn
        cases hn
def dBag0 (i : Nat) (p : PTS) : PTS := fun w P ρ M => ∃ d, gt ρ i = some (.val d) ∧ p w P (st ρ i (.bag d [])) M
theorem go_as {K : PySem.W.Frag} {p : PTS} {D : Ends} {σ : L2.St} {H : Hp} {g : Gh} {ρ' : Rho} {M' : Mm} {F F' : Hp} {O' : Own} {P : PEnds} {w : PWi} (A' : Ab K g σ H ρ' M' F' O') (s : Same F F') (h : p w P ρ' M') (hw : WOk K g F W w)
    (k1 : ∀ (σ' : L2.St) (H' : Hp) (ρ' : Rho) (M' : Mm) (F' : Hp) (O' : Own), Ab K g σ' H' ρ' M' F' O' → Same F F' → P.nx ρ' M' → D.nx σ' H')
    (k2 : ∀ (v : V) (σ' : L2.St) (H' : Hp) (ρ' : Rho) (M' : Mm) (F' : Hp) (O' : Own) (d : Px.D), Ab K g σ' H' ρ' M' F' O' → Same F F' → Rp K F' d v → P.rt d M' → D.rt v H')
    (k3 : ∀ (σ' : L2.St) (H' : Hp) (ρ' : Rho) (M' : Mm) (F' : Hp) (O' : Own), Ab K g σ' H' ρ' M' F' O' → Same F F' → P.bk ρ' M' → D.bk σ' H')
    (k4 : ∀ (σ' : L2.St) (H' : Hp) (ρ' : Rho) (M' : Mm) (F' : Hp) (O' : Own), Ab K g σ' H' ρ' M' F' O' → Same F F' → P.ct ρ' M' → D.ct σ' H')
    (k5 : ∀ (a : Addr) (xs : List V) (σ' : L2.St) (H' : Hp) (ρ' : Rho) (M' : Mm) (F' : Hp) (O' : Own) (ds : List Px.D), Ab K g σ' H' ρ' M' F' O' → Same F F' → H' a = some (.lst xs) → RpL K F' ds xs → F' a = none → O' a = none → g.H0 a = none → P.rl ds M' → D.rt (.ref a) H') :
    realS K W p D σ H :=
  ⟨g, ρ', M', F', O', P, w, A', h, hw.mono s, fun σ2 H2 ρ2 M2 F2 O2 A2 s2 q2 => k1 σ2 H2 ρ2 M2 F2 O2 A2 (s.trans s2) q2, fun v σ2 H2 ρ2 M2 F2 O2 d A2 s2 r2 q2 => k2 v σ2 H2 ρ2 M2 F2 O2 d A2 (s.trans s2) r2 q2,
    fun σ2 H2 ρ2 M2 F2 O2 A2 s2 q2 => k3 σ2 H2 ρ2 M2 F2 O2 A2 (s.trans s2) q2, fun σ2 H2 ρ2 M2 F2 O2 A2 s2 q2 => k4 σ2 H2 ρ2 M2 F2 O2 A2 (s.trans s2) q2, fun a xs σ2 H2 ρ2 M2 F2 O2 ds A2 s2 e1 e2 e3 e4 e5 q2 => k5 a xs σ2 H2 ρ2 M2 F2 O2 ds A2 (s.trans s2) e1 e2 e3 e4 e5 q2⟩
section
variable {st1 : Stmt} {ss : List Stmt} {p : PTS}
theorem bag0_run {K : PySem.W.Frag} {i : Nat} {D : Ends} {σ : L2.St} {H : Hp} (h : realS K W (dBag0 i p) D σ H) : realS K W p D σ H := by
  obtain ⟨g, ρ, M, F, O, P, w, A, ⟨d, e, h⟩, hw, k1, k2, k3, k4, k5⟩ := h
  exact go_as (A.tell (y := .bag d []) e fun v r => ⟨r, List.nodup_nil, fun q hq => by cases hq⟩) (Same.refl F) h hw k1 k2 k3 k4 k5
theorem ds_bag0 (i : Nat) (h : DS X W st1 p) : DS X W st1 (dBag0 i p) := ps_imp h fun D σ H hh => bag0_run hh
def dThD (i : Nat) (p : PTS) : PTS := fun w P ρ M => ∃ c ps ls, gt ρ i = some (bagD c ps ls) ∧ ps.length = ls.length ∧
  ∃ ks, ks.length = ps.length ∧ M c = some (dikB ks ps) ∧ p w P (st ρ i (.val (.raw (.ref c)))) (updM M c (.dik (ks.zip (ls.map .lst))))
theorem drel_thaw {K : PySem.W.Frag} {F : Hp} : ∀ {ks : List D} {ps : List Addr} {ls : List (List D)} {xs : KEnts}, ks.length = ps.length → ps.length = ls.length → (∀ q ∈ ps.zip ls, ∃ xs, F q.1 = some (.lst xs) ∧ RpL K F q.2 xs) → DRel K F (ks.zip (rawL ps)) xs → DRel K F (ks.zip (ls.map D.lst)) xs
  | [], [], [], _, _, _, _, h => h
  | [], _ :: _, _, _, h, _, _, _ => by cases h
  | _ :: _, [], _, _, h, _, _, _ => by cases h
  | _, [], _ :: _, _, _, h, _, _ => by cases h
  | _, _ :: _, [], _, _, h, _, _ => by cases h
  | k :: ks, p :: ps, l :: ls, _, h1, h2, h3, ⟨x, ys, v, e, e1, e2, e3, e4, e5, e6⟩ => by
    obtain ⟨zs, f1, f2⟩ := h3 (p, l) (by rw [List.zip_cons_cons]; exact List.mem_cons_self)
    exact ⟨x, ys, v, e, e1, e2, e3, ⟨p, zs, e4, f1, f2⟩, e5, drel_thaw (Nat.succ.inj h1) (Nat.succ.inj h2) (fun q hq => h3 q (by rw [List.zip_cons_cons]; exact List.mem_cons_of_mem _ hq)) e6⟩
theorem thD_run {K : PySem.W.Frag} {i : Nat} {D : Ends} {σ : L2.St} {H : Hp} (h : realS K W (dThD i p) D σ H) : realS K W p D σ H := by
  obtain ⟨g, ρ, M, F, O, P, w, A, ⟨c, ps, ls, e, hl, h⟩, hw, k1, k2, k3, k4, k5⟩ := h
  obtain ⟨F', O', A', s, h3⟩ := A.thaw e
  have A2 := A'.tell (y := .val (.raw (.ref c))) (gt_st_at e) fun v r => r.1
  rw [st_st] at A2
  obtain ⟨ks, hk, hM, h⟩ := h
  have A3 := A2.tellMo (mo' := .dik (ks.zip (ls.map .lst))) hM fun ⟨xs, e1, e2, e3, e4⟩ => ⟨xs, e1, e2, by
      have e3 : xs.map (·.1) = (ks.zip (rawL ps)).map (·.1) := e3
      rw [e3, List.map_fst_zip (by rw [rawL_len]; omega), List.map_fst_zip (by rw [List.length_map]; omega)], by
      have e4 : RpL K F' ((ks.zip (rawL ps)).map (·.2)) (xs.map (·.2)) := e4
      rw [List.map_snd_zip (by rw [rawL_len]; omega)] at e4
      rw [List.map_snd_zip (by rw [List.length_map]; omega), rpl_rawL' e4]
      exact rpl_lsts hl h3⟩
  exact go_as A3 s h hw k1 k2 k3 k4 k5
def frzU (kvs : List (D × D)) : PySem.W.Frag → Addr → Hp → Prop := fun K a F => ∃ od xs, F a = some (.frz od (dkO a xs)) ∧ kvs.length ≤ 1000000 ∧ DRel K F kvs xs
def frzK (kvs : List (D × D)) : Mo := .kn (frzU kvs)
def dFzD (i : Nat) (p : PTS) : PTS := fun w P ρ M => ∃ c ps ks ls, gt ρ i = some (dctL c ks ps ls) ∧ ps.length = ls.length ∧ ks.length = ps.length ∧ p w P (st ρ i (.val (.raw (.ref c)))) (updM M c (frzK (ks.zip (ls.map .lst))))
def tLk (t : TS) : TS := fun D σ H => ∃ d u, H d = some u ∧ Mut (some u) ∧ ∀ od, t D σ (upd H d (.frz od u))
theorem ps_lk {X : Cx} {st : Stmt} {t : TS} (h : PS X st t) : PS X st (tLk t) := by
  refine ⟨fun pins s σ H D I hw => ?_⟩
  obtain ⟨d, u, hd, mu, hw⟩ := hw
  obtain ⟨od, I1⟩ := I.lock hd mu
  exact h.run pins s σ _ D I1 (hw od)
theorem fzD_run {K : PySem.W.Frag} {i : Nat} {D : Ends} {σ : L2.St} {H : Hp} (h : realS K W (dFzD i p) D σ H) : tLk (realS K W p) D σ H := by
  obtain ⟨g, ρ, M, F, O, P, w, A, ⟨c, ps, ks, ls, e, hl, hk, h⟩, hw, k1, k2, k3, k4, k5⟩ := h
  obtain ⟨F', O', A', s, h3⟩ := A.thawD e
  obtain ⟨v, hv, r1, r2, ⟨xs, r3, r4, r5⟩, _⟩ := A'.sl i _ (gt_st_at e)
  refine ⟨c, dkO c xs, r3, trivial, fun od => ?_⟩
  have hF : F' c = none := (A'.liv c _ r2).2.1
  have A2 := A'.frzS (p := c) (o := .frz od (dkO c xs)) (y := .val (.raw (.ref c))) (gt_st_at e) r2 fun v ⟨o1, _⟩ => o1
  rw [st_st] at A2
  have s2 : Same F' (upd F' c (.frz od (dkO c xs))) := same_new hF
  have A3 := A2.know (p := c) (u := frzU (ks.zip (ls.map .lst))) ⟨_, upd_same⟩ ⟨od, xs, upd_same, by
      rw [List.length_zip, List.length_map, ← hl, ← rawL_len ps, ← List.length_zip]; exact r4, DRel.mono s2 _ _ (drel_thaw hk hl h3 r5)⟩
  exact go_as A3 (s.trans s2) h hw k1 k2 k3 k4 k5
theorem ds_fzD (i : Nat) (h : DS X W st1 p) : DS X W st1 (dFzD i p) := ps_imp (ps_lk h) fun D σ H hh => fzD_run hh
theorem ds_thD (i : Nat) (h : DS X W st1 p) : DS X W st1 (dThD i p) := ps_imp h fun D σ H hh => thD_run hh
end
end
end Px
set_option Elab.async false
set_option linter.all false
set_option maxRecDepth 100000
namespace Px
open PySem PySem.Spec PyProof.Rows L2
section
variable {K : PySem.W.Frag} {g : Gh} {σ : L2.St} {H : Hp} {ρ : Rho} {M : Mm} {F : Hp} {O : Own} {p : Addr} {i j : Nat} {x y : Sv} {v : V}
theorem Ab.putS (A : Ab K g σ H ρ M F O) (hex : ∃ u, H p = some u) (hF : F p = none) (hO : O p = none) (h0 : g.H0 p = none) (ok : SvOk K F H (fun b => if b = p then some (.slot i) else O b) i y v) :
    Ab K g (σ.set i (some v)) H (st ρ i y) M F (fun b => if b = p then some (.slot i) else O b) := by
  have keep : ∀ b u, O b = some u → (if b = p then some (Ow.slot i) else O b) = some u := fun b u e => by rw [if_neg (fun z => by rw [z, hO] at e; cases e)]; exact e
  exact { sub := A.sub, ext0 := A.ext0, new := A.new, frm := A.frm, thr := A.thr
          liv := fun b u e => by
            by_cases z : b = p
            · subst z; exact ⟨hex, hF, .inr h0⟩
            · rw [if_neg z] at e; exact A.liv b u e
          slo := fun b u e n => by
            by_cases z : b = p
            · subst z; exact h0
            · rw [if_neg z] at e; exact A.slo b u e n
          tm := fun q l e => by
            obtain ⟨xs, e1, e2, e3⟩ := A.tm q l e
            exact ⟨xs, e1, e2, keep q _ e3⟩
          mu := fun b m e => (A.mu b m e).mono (Same.refl F) fun q u e1 e2 => ⟨e1, keep q _ e2⟩
          len := by rw [List.length_set, st_len]; exact A.len
          sl := fun k sv e => by
            by_cases z : k = i
            · subst z
              have e2 := gt_st_self e
              subst e2
              exact ⟨v, set_same (by rw [← A.len]; exact gt_st_lt e), ok⟩
            · rw [gt_st_ne z] at e
              obtain ⟨u, e1, q⟩ := A.sl k sv e
              exact ⟨u, by rw [List.getElem?_set_ne (Ne.symm z)]; exact e1, q.mono (Same.refl F) fun q xs e1 e2 => ⟨e1, keep q _ e2⟩⟩ }
theorem Ab.putD (A : Ab K g σ H ρ M F O) (h : H p = none) : Ab K g (σ.set i (some (.ref p))) (upd H p (dkO p [])) (st ρ i (.dct p [] [])) M F (fun b => if b = p then some (.slot i) else O b) :=
  (A.laid (o := dkO p []) h).putS ⟨_, upd_same⟩ (A.f0 h) (A.o0 h) (A.g0 h) ⟨rfl, if_pos rfl, ⟨[], upd_same, Nat.zero_le _, rfl⟩, List.nodup_nil, fun q hq => by cases hq⟩
end
def dParED (i j : Nat) (pe : PTE) : PTS := fun w P ρ M => pe w ρ M fun d M1 => ∀ c, M1 c = none → P.nx (st (st ρ i (.val d)) j (.dct c [] [])) M1
section
variable {X : Cx} {W : WX} {e : Expr} {pe : PTE} {pos p : Pos}
theorem ds_parED (i j : Nat) {x y : Str} {px py pt pd : Pos} {kt k2 pt2} (hc : X.calm = true) (hN : X.N.Nodup) (he : DE X W e pe)
    (hi : X.N[i]? = some x := by rfl) (hj : X.N[j]? = some y := by rfl) (hij : i ≠ j := by decide)
    (hx : X.env.scope.names.lookup x = some .local := by rfl) (hy : X.env.scope.names.lookup y = some .local := by rfl)
    (h1 : starEach [e, .Dict [] [] pd] X.env = (false, eval e X.env) :: starEach [.Dict [] [] pd] X.env := by rfl)
    (h2 : starEach [.Dict [] [] pd] X.env = (false, eval (.Dict [] [] pd) X.env) :: starEach [] X.env := by rfl)
    (hw : swappedStores [.Tuple [.Name x px, .Name y py] kt pt] (.Tuple [e, .Dict [] [] pd] k2 pt2) X.env = pure (some [x, y]) := by rfl)
    (hs : swapsWithSole [.Tuple [.Name x px, .Name y py] kt pt] (.Tuple [e, .Dict [] [] pd] k2 pt2) pos.line X.env = pure false := by rfl) :
    DS X W (.Assign [.Tuple [.Name x px, .Name y py] kt pt] (.Tuple [e, .Dict [] [] pd] k2 pt2) pos) (dParED i j pe) :=
  ps_imp (ps_par hc hN hi hj hij hx hy (pa_cons he (pa_cons pe_newN pa_nil h2) h1) hw hs)
    fun D σ H ⟨g, ρ, M, F, O, P, w, A, h, hw, k1, _⟩ =>
    ⟨g, ρ, M, F, O, _, w, A, h, hw, fun v H1 F1 O1 M1 d A1 s1 r1 q1 => fun c hc => by
      have A2 := (A1.put (i := i) r1).putD (i := j) hc
      exact ⟨v, .ref c, rfl, k1 _ _ _ M1 F1 _ A2 s1 (q1 c (A1.m0 hc))⟩⟩
end
theorem frzK_is {K : PySem.W.Frag} {g : Gh} {σ : L2.St} {H : Hp} {ρ : Rho} {M : Mm} {F : Hp} {O : Own} {c : Addr} {kvs : List (D × D)} (A : Ab K g σ H ρ M F O) (h : M c = some (frzK kvs)) : ∃ od xs, F c = some (.frz od (dkO c xs)) ∧ H c = some (.frz od (dkO c xs)) ∧ kvs.length ≤ 1000000 ∧ DRel K F kvs xs := by
  obtain ⟨F0, s, _, od, xs, h1, h2, h3⟩ := A.mu c _ h
  exact ⟨od, xs, s _ _ h1, A.sub _ _ (s _ _ h1), h2, DRel.mono s _ _ h3⟩
section
variable {X : Cx} {pins : List (Addr × Obj)} {σ : L2.St} {H F : Hp} {s : Shared}
theorem dk_isF (I : Inv X pins σ H s) (sm : Same F H) {p : Addr} {od : Obj} {kvs : List (D × D)} {xs : KEnts} (e : H p = some (.frz od (dkO p xs))) (r : DRel X.K F kvs xs) :
    (p == sysModules) = false ∧ s.heap.DictOfH (nestedKind X.prog X.w) p xs := by
  obtain ⟨hd, hx⟩ := I.hok p _ e
  obtain ⟨⟨h1, h2, h3, o, es, ep, h4, h5, h6, h7⟩, _, _⟩ := (show ObjOk X.prog X.w H s.heap p (dkO p xs) from hx)
  refine ⟨h1, o, es, ep, h4, h5, h6, h7 X.w, ?_, h3⟩
  have all : ∀ {kvs : List (D × D)} {xs : KEnts}, DRel X.K F kvs xs → ∀ x ∈ xs, (nestedKind X.prog X.w).is s.heap x.1 x.2.1 := by
    intro kvs
    induction kvs with
    | nil => intro xs r x hx; rw [show xs = [] from r] at hx; cases hx
    | cons p r ih =>
      intro xs q x hx
      obtain ⟨y, ys, v, rfl, e2, e3, e4, e5, e6, e7⟩ := q
      rcases List.mem_cons.mp hx with rfl | hx
      · exact ⟨nested_is I sm p.1 _ _ _ e2 e4 rfl, e3⟩
      · exact ih e7 x hx
  exact all r
end
def rGetFz (K : PySem.W.Frag) : R2 := fun y x H Q => ∃ F p od kvs xs d k a z, y = .ref p ∧ x = .ref a ∧ Same F H ∧ H p = some (.frz od (dkO p xs)) ∧ DRel K F kvs xs ∧ nkOf d = some k ∧ k.depth ≤ 8 ∧ Rp K F d x ∧ lookK kvs k = some z ∧ ∀ v, Rp K F z v → Q v H
def dGetFz (pb pa : PTE) : PTE := fun w ρ M q => pb w ρ M fun y M1 => pa w ρ M1 fun x M2 => ∃ c kvs, y = .raw (.ref c) ∧ M2 c = some (frzK kvs) ∧ asKey x fun k => ∃ z, lookK kvs k = some z ∧ q z M2
section
variable {X : Cx} {W : WX} {a b e tg : Expr} {pa pb pe : PTE} {pos apos cpos : Pos}
theorem ix_Fz (hu : X.A.units + 9 < cLine) : IxR X (rGetFz X.K) := by
  intro value slice pins s σ H y x v u Q I ry rx h hs
  obtain ⟨F, p, od, kvs, xs, d, k, c, z, rfl, rfl, sm, e, dr, hk, hd, rd, hl, q⟩ := h
  cases (show u = .ref c from rx)
  cases (show v = .ref p from ry)
  obtain ⟨z1, z2⟩ := dk_isF I sm e dr
  obtain ⟨w, hw, t, rt, rtw⟩ := drel_look k dr hl
  exact subscriptTail_builtinR (x := w.2) z2.typeIs PySem.F.slot_dict_getitem.lookup
    (wpAny_getItem_heap (Q := fun r s' => r = w.2 ∧ EP X pins σ Q r s') (room_n hu) ⟨nested_is I sm d k _ _ hk rd rfl, hd⟩ z2 hw ⟨rfl, t, H, I.tok _, rtw, q t rt⟩) hs
theorem de_getFz (hu : X.A.units + 9 < cLine) (hb : DE X W b pb) (ha : DE X W a pa) (hs : PlainIx a := by exact fun _ _ => rfl) : DE X W (.Subscript b a pos) (dGetFz pb pa) := pe_imp (pe_ix (ix_Fz hu) hb ha hs) fun σ H Q ⟨g, ρ, M, F, O, q, w, A, p, hw, k⟩ => by
  refine ⟨g, ρ, M, F, O, _, w, A, p, hw, fun v H1 F1 O1 M1 y A1 s1 r1 q1 => ⟨g, ρ, M1, F1, O1, _, w, A1, q1, hw.mono s1, fun u H2 F2 O2 M2 d A2 s2 r2 q2 => ?_⟩⟩
  obtain ⟨c, kvs, rfl, hM, q3⟩ := q2
  obtain ⟨l, nk, rfl, hk, hd, z, hz, q4⟩ := asKey_of q3
  obtain ⟨od, xs, e0, e1, e3, e4⟩ := frzK_is A2 hM
  obtain ⟨b', ys, eb, _⟩ := id r2
  exact ⟨F2, c, od, kvs, xs, .tup l, nk, b', z, Rp.mono s2 _ _ r1, eb, A2.sub, e1, e4, hk, hd, r2, hz, fun v rv => k _ H2 F2 O2 M2 _ A2 (s1.trans s2) rv q4⟩
def iKF (pe : PTE) : PTA := fun w ρ M q => pe w ρ M fun d M1 => ∃ c kvs, d = .raw (.ref c) ∧ M1 c = some (frzK kvs) ∧ q (kvs.map (·.1)) M1
theorem wk_keysN {K : PySem.W.Frag} {F : Hp} {c : Addr} {od : Obj} {kvs : List (D × D)} {xs : KEnts} (h : F c = some (.frz od (dkO c xs))) (r : DRel K F kvs xs) : Wk K (Itn c od xs) F (kvs.map (·.1)) where
  go := fun g σ ρ M F' O H i A s hi => by
    rw [List.length_map, drel_len r] at hi
    exact ⟨A.sub _ _ (s _ _ h), hi⟩
  yl := fun g σ ρ M F' O H i x H' d A s hy hd => by
    obtain ⟨rfl, y, hy, rfl⟩ := hy
    obtain ⟨p, hp, _, hr⟩ := drel_get r hy
    rw [List.getElem?_map, hp] at hd
    cases hd
    exact ⟨F', A, Same.refl F', Rp.mono s _ _ hr⟩
  sp := fun g σ ρ M F' O H A s => by
    refine ⟨A.sub _ _ (s _ _ h), ?_⟩
    rw [List.length_map, drel_len r]
    exact Nat.le_refl _
theorem di_keysF (he : DE X W e pe) : DI X W tg e (iKF pe) := pi_imp (pi_keysN he) fun σ H R ⟨g, ρ, M, F, O, q, w, A, pr, hw, k⟩ =>
  ⟨g, ρ, M, F, O, _, w, A, pr, hw, fun v H' F' O' M' d A' s r ⟨c, kvs, ed, hM, q⟩ => by
    subst ed
    obtain ⟨od, xs, e0, e1, e3, e4⟩ := frzK_is A' hM
    exact ⟨c, od, xs, r, e1, k _ H' F' O' M' _ A' s (wk_keysN e0 e4) q⟩⟩
end
end Px
set_option Elab.async false
set_option linter.all false
set_option maxRecDepth 100000
namespace Px
open PySem PySem.Spec PyProof.Rows L2
section
variable {X : Cx} {pins : List (Addr × Obj)} {σ : L2.St} {H : Hp} {s : Shared} {d : Addr} {o : Obj}
theorem frzN2 {xs : KEnts} (I : Inv X pins σ H s) (h : H d = some (.frz o (dkO d xs))) :
    (d == sysModules) = false ∧ s.heap.get? d = some o ∧ o.ExactDict ∧ ∃ (es : Array DictEntry) (ep : Nat), o.data = .dict es ep ∧ es.size = xs.length ∧ ∀ (i : Nat) (y : NestedKey × Addr × Value), xs[i]? = some y → ∃ en, es[i]? = some en ∧ en.key = .ref y.2.1 ∧ en.val = y.2.2 := by
  obtain ⟨hd, hx⟩ := I.hok d _ h
  obtain ⟨⟨h1, h2, h3, o', es, ep, h4, h5, h6, h7⟩, _, _⟩ := (show ObjOk X.prog X.w H s.heap d (dkO d xs) from hx)
  rw [hd] at h4
  cases h4
  have e := h7 X.w
  refine ⟨h1, hd, h5, es, ep, h6, ?_, fun i y hy => ?_⟩
  · have l := congrArg List.length e
    rw [List.length_map, Array.length_toList] at l
    exact l
  · refine ⟨⟨y.1.hash X.w, .ref y.2.1, y.2.2⟩, ?_, rfl, rfl⟩
    rw [← Array.getElem?_toList, e, List.getElem?_map, hy]
    rfl
end
def Itin (d : Addr) (o : Obj) (xs : KEnts) (vs : List V) : It :=
  ⟨fun i H => H d = some (.frz o (dkO d xs)) ∧ i < xs.length, fun i H x H' => ∃ T y v, xs[i]? = some y ∧ vs[i]? = some v ∧ x = .ref T ∧ H T = none ∧ H' = upd H T (.tup [.ref y.2.1, v]), fun i H => H d = some (.frz o (dkO d xs)) ∧ xs.length ≤ i⟩
def RelVs (xs : KEnts) (vs : List V) : Prop := vs.length = xs.length ∧ ∀ (i : Nat) (y : NestedKey × Addr × Value) (v : V), xs[i]? = some y → vs[i]? = some v → RelV v y.2.2
section
variable {P : Program} {w : World} {K : PySem.W.Frag} {d : Addr} {o : Obj} {es : Array DictEntry} {ep : Nat} {elts : List Expr} {kk : Nat} {tpos : Pos}
theorem turn_itemsN {xs : KEnts} {vs : List V} (it : Addr) (hod : o.data = .dict es ep) (hvs : RelVs xs vs) : Turn P w K (.Tuple elts kk tpos) (Itin d o xs vs) [it] it (fun i h => ∃ ok ov, IsItemIter h it d i xs.length ep ok ov) where
  mem := by simp
  obj := fun i h st b hb => by
    have e : b = it := by simpa using hb
    subst e
    obtain ⟨ok, ov, e⟩ := st
    exact ⟨_, e, fun v z => nomatch z⟩
  keep := fun i h h' st k => let ⟨ok, ov, e⟩ := st; ⟨ok, ov, k it (by simp) _ e⟩
  item := by
    intro X hP hw hK hc i pins s σ H E I hf st hg
    subst hP hw hK
    obtain ⟨hd, hi⟩ := hg
    obtain ⟨hs, hgd, hx, es', ep', hdt, hsz, ent⟩ := frzN2 I hd
    obtain ⟨rfl, rfl⟩ := dict_ep hod hdt
    obtain ⟨y, hy⟩ : ∃ p, xs[i]? = some p := ⟨xs[i], List.getElem?_eq_getElem hi⟩
    have hiv : i < vs.length := by rw [hvs.1]; exact hi
    obtain ⟨v, hv⟩ : ∃ p, vs[i]? = some p := ⟨vs[i], List.getElem?_eq_getElem hiv⟩
    have rv := hvs.2 i y v hy hv
    obtain ⟨en, hen, hkey, hval⟩ := ent i y hy
    obtain ⟨ok, ov, he⟩ := st
    rw [← hsz] at he
    have hii : i < es'.size := by omega
    have een : es'[i] = en := by rw [Array.getElem?_eq_getElem hii] at hen; exact Option.some.inj hen
    have hlt : it < s.heap.objs.size := Heap.lt_size he
    refine wpAny_pyNext_items_item_raw he ⟨o, hgd, hx, hod⟩ hii fun h' ho hT hz hk => ?_
    rw [een, hkey, hval] at hT
    refine ⟨_, rfl, wpAny_letOwnedTupleGo_items (s := { s with heap := h' }) ho fun h'' he' sb => ?_⟩
    have hT2 : h''.get? s.heap.objs.size = some { cls := .type "tuple", data := .seq #[.ref y.2.1, y.2.2] } := (sb.2 _ (Nat.ne_of_gt hlt)).trans hT
    have new : ObjOk X.prog X.w (upd H s.heap.objs.size (.tup [.ref y.2.1, v])) h'' s.heap.objs.size (.tup [.ref y.2.1, v]) :=
      ⟨by show 2 ≤ sizeLine; decide, [.ref y.2.1, y.2.2], .cons rfl (.cons rv .nil), ⟨_, hT2, rfl, _, rfl⟩⟩
    have I1 : Inv X pins σ (upd H s.heap.objs.size (.tup [.ref y.2.1, v])) { s with heap := h'' } :=
      I.turnedNew (t' := s.toks) (ch := [it]) (fun b ob hb e => (sb.2 b (by simpa using hb)).trans (hk b ob (by simpa using hb) e)) hf (Nat.le_refl _) new
    refine ⟨.ref s.heap.objs.size, _, I1, rfl, ⟨_, y, v, hy, hv, rfl, I.hok.fresh (Nat.le_refl _), rfl⟩, ⟨es'[i].key, es'[i].val, ?_⟩, fun b hb => ?_⟩
    · rw [← hsz]; exact he'
    · have e : b = it := by simpa using hb
      rw [e, upd_ne (Nat.ne_of_lt hlt)]
      exact (hf it (by simp)).1
  done := by
    intro X hP hw hK hc i pins s σ H E I hf st hg
    subst hP hw hK
    obtain ⟨hd, hi⟩ := hg
    obtain ⟨f0, f1, f2, f3, f4, f5⟩ := hf it (by simp)
    obtain ⟨hs, hgd, hx, es', ep', hdt, hsz, ent⟩ := frzN2 I hd
    obtain ⟨rfl, rfl⟩ := dict_ep hod hdt
    obtain ⟨ok, ov, he⟩ := st
    rw [← hsz] at he
    exact wpAny_pyNext_items_end_raw (I.ok.hd hc) he ⟨o, hgd, hx, hod⟩ (by omega) fun h' eb => ⟨rfl, I.turned (t' := s.toks) (fun b ob hb e => eb b ob hb e) f0 f1 f3 f4 f5⟩
  self := fun A i s Q E st h => let ⟨_, _, e⟩ := st; PySem.W.kcp_self e h
end
def iItemsN (td : TE) : TI := fun σ H R => td σ H fun x H1 => ∃ d o xs vs, x = .ref d ∧ H1 d = some (.frz o (dkO d xs)) ∧ RelVs xs vs ∧ R (Itin d o xs vs) H1
theorem drel_vals {K : PySem.W.Frag} {F : Hp} : ∀ {kvs : List (D × D)} {xs : KEnts}, DRel K F kvs xs → ∃ vs, RelVs xs vs ∧ RpL K F (kvs.map (·.2)) vs
  | [], xs, h => ⟨[], by rw [show xs = [] from h]; exact ⟨rfl, fun i y v e => by simp at e⟩, rfl⟩
  | p :: r, _, ⟨x, ys, v, rfl, e2, e3, e4, e5, e6, e7⟩ => by
    obtain ⟨vs, h1, h2⟩ := drel_vals e7
    refine ⟨v :: vs, ⟨by rw [List.length_cons, List.length_cons, h1.1], fun i y u q1 q2 => ?_⟩, v, vs, rfl, e5, h2⟩
    cases i with
    | zero => cases q1; cases q2; exact e6
    | succ i => exact h1.2 i y u (by simpa using q1) (by simpa using q2)
section
variable {X : Cx} {W : WX} {e : Expr} {td : TE} {pe : PTE} {apos cpos : Pos} {elts : List Expr} {kk : Nat} {tpos : Pos}
theorem pi_itemsN (he : PE X e td) (hbase : attributeBase e "items" X.env (eval e X.env) = eval e X.env := by rfl) (hline : (apos.endLine == cpos.line) = true := by rfl) :
    PI X (.Tuple elts kk tpos) (.Call (.Attribute e "items" apos) [] [] cpos) (iItemsN td) := by
  refine ⟨fun pins s σ H R I h => ?_⟩
  refine wpAny_Call_method (T := "dict") (id := "dict.items") hbase rfl hline PySem.F.plainAttrs_dict PySem.F.slot_dict_items PySem.F.type_dict_items (thn (he.run pins s σ H _ I h) fun u s1 ⟨x, H1, I1, rx, d, o, xs, vs, ex, hd, hvs, q⟩ => ?_)
  subst ex
  obtain rfl : u = Value.ref d := rx
  obtain ⟨hs, hgd, hx, es, ep, hdt, hsz, ent⟩ := frzN2 I1 hd
  have raw : s1.heap.DictRaw d es ep := ⟨o, hgd, hx, hdt⟩
  refine ⟨raw.typeIs, fun a e2 => by cases e2; exact ⟨o, hgd, hx.2.1⟩, ?_⟩
  have I2 : Inv X pins σ H1 { s1 with heap := s1.heap.push { cls := .type "dict_items", data := .fields #[.ref d] } } := I1.kept (t' := s1.toks) fun b ob q => Heap.get?_push_of_some _ q
  have fin : wpAny (model X.prog X.w) X.A (pyIter (.ref s1.heap.objs.size)) (PIE X pins σ (.Tuple elts kk tpos) R) X.xe { s1 with heap := s1.heap.push { cls := .type "dict_items", data := .fields #[.ref d] } } := by
    refine wpAny_pyIter_items_raw (d := d) ⟨_, Heap.get?_push_size _ rfl, rfl, rfl⟩ (raw.at fun o q => Heap.get?_push_of_some _ q) (pi_one (tk := s1.toks) I2 _ (turn_itemsN _ hdt hvs) ⟨.none, .none, ?_⟩ q)
    rw [← hsz]
    exact Heap.get?_push_size _ rfl
  show wpAny _ _ (callWith cpos (.builtin "dict.items") [.ref d] [] []) _ X.xe s1
  exact method_meetsIn PySem.F.slot_dict_items PySem.F.entry_dict_items rfl (PySem.evalArgs_none ⟨rfl, raw.typeIs, PySem.F.args_dict_items_1 _, _, meets_dict_items_raw d hs, ⟨es, ep, raw⟩, fin⟩)
def iIF (pe : PTE) : PTA := fun w ρ M q => pe w ρ M fun d M1 => ∃ c kvs, d = .raw (.ref c) ∧ M1 c = some (frzK kvs) ∧ q (kvs.map fun p => .tup [p.1, p.2]) M1
theorem wk_itemsN {K : PySem.W.Frag} {F : Hp} {c : Addr} {od : Obj} {kvs : List (D × D)} {xs : KEnts} {vs : List V} (h : F c = some (.frz od (dkO c xs))) (r : DRel K F kvs xs) (rv : RpL K F (kvs.map (·.2)) vs) : Wk K (Itin c od xs vs) F (kvs.map fun p => .tup [p.1, p.2]) where
  go := fun g σ ρ M F' O H i A s hi => by
    rw [List.length_map, drel_len r] at hi
    exact ⟨A.sub _ _ (s _ _ h), hi⟩
  yl := fun g σ ρ M F' O H i x H' d A s hy hd => by
    obtain ⟨T, y, v, hy, hv, rfl, hT, rfl⟩ := hy
    obtain ⟨p, hp, _, hr⟩ := drel_get r hy
    rw [List.getElem?_map, hp] at hd
    cases hd
    obtain ⟨x, hx, rx⟩ := rv.get (i := i) (d := p.2) (by rw [List.getElem?_map, hp]; rfl)
    rw [hv] at hx
    cases hx
    have sn := same_new (o := .tup [.ref y.2.1, v]) (A.f0 hT)
    exact ⟨_, A.lay hT, sn, T, _, rfl, .inl (.inl upd_same), _, _, rfl, Rp.mono (s.trans sn) _ _ hr, _, _, rfl, Rp.mono (s.trans sn) _ _ rx, rfl⟩
  sp := fun g σ ρ M F' O H A s => by
    refine ⟨A.sub _ _ (s _ _ h), ?_⟩
    rw [List.length_map, drel_len r]
    exact Nat.le_refl _
theorem di_itemsF (he : DE X W e pe) (hbase : attributeBase e "items" X.env (eval e X.env) = eval e X.env := by rfl) (hline : (apos.endLine == cpos.line) = true := by rfl) :
    DI X W (.Tuple elts kk tpos) (.Call (.Attribute e "items" apos) [] [] cpos) (iIF pe) := pi_imp (pi_itemsN he hbase hline) fun σ H R ⟨g, ρ, M, F, O, q, w, A, pr, hw, k⟩ =>
  ⟨g, ρ, M, F, O, _, w, A, pr, hw, fun v H' F' O' M' d A' s r ⟨c, kvs, ed, hM, q⟩ => by
    subst ed
    obtain ⟨od, xs, e0, e1, e3, e4⟩ := frzK_is A' hM
    obtain ⟨vs, h1, h2⟩ := drel_vals e4
    exact ⟨c, od, xs, vs, r, e1, h1, k _ H' F' O' M' _ A' s (wk_itemsN e0 e4 h2) q⟩⟩
end
end Px
set_option Elab.async false
set_option linter.all false
set_option maxRecDepth 100000
namespace Px
open PySem PySem.Spec PyProof.Rows L2
def nkI (p : List Int) : NestedKey := .tup (p.map .num)
theorem nkOfL_ints : ∀ p : List Int, nkOfL (p.map D.int) = some (p.map NestedKey.num)
  | [] => rfl
  | n :: p => by
    show (match some (NestedKey.num n), nkOfL (p.map D.int) with | some a, some b => some (a :: b) | _, _ => none) = _
    rw [nkOfL_ints p]; rfl
theorem nk_tupI (p : List Int) : nkOf (tupI p) = some (nkI p) := by
  show (nkOfL (p.map D.int)).map NestedKey.tup = _
  rw [nkOfL_ints]; rfl
theorem nums_inj : ∀ {p q : List Int}, p.map NestedKey.num = q.map NestedKey.num → p = q
  | [], [], _ => rfl
  | [], _ :: _, h => by cases h
  | _ :: _, [], h => by cases h
  | a :: p, b :: q, h => by
    injection h with h1 h2
    injection h1 with h1
    rw [h1, nums_inj h2]
theorem nkI_inj {p q : List Int} (h : nkI p = nkI q) : p = q := by
  unfold nkI at h
  injection h with h
  exact nums_inj h
theorem dep_nums : ∀ p : List Int, NestedKey.depthAll (p.map .num) ≤ 0
  | [] => Nat.le_refl _
  | n :: p => by
    show max (NestedKey.depth (.num n)) (NestedKey.depthAll (p.map .num)) ≤ 0
    have := dep_nums p
    have e : NestedKey.depth (.num n) = 0 := by simp [NestedKey.depth]
    rw [e]; omega
theorem key_tupI {p : List Int} {f : NestedKey → Prop} (h : f (nkI p)) : asKey (tupI p) f := by
  show (match nkOf (tupI p) with | some k => k.depth ≤ 8 ∧ f k | none => False)
  rw [nk_tupI]
  refine ⟨?_, h⟩
  show NestedKey.depthAll _ + 1 ≤ 8
  have := dep_nums p
  omega
abbrev Grp := List (List Int × List Int)
def addG : Grp → List Int → Int → Grp
  | [], p, k => [(p, [k])]
  | (p', r) :: G, p, k => if p' = p then (p', r ++ [k]) :: G else (p', r) :: addG G p k
def grpL (f : Int → List Int) (ks : List Int) : Grp := ks.foldl (fun G k => addG G (f k) k) []
def keysG (G : Grp) : List D := G.map fun g => tupI g.1
def lstsG (G : Grp) : List (List D) := G.map fun g => g.2.map .int
theorem keyAt_cons (d : D) (r : List D) (k : NestedKey) : keyAt (d :: r) k = if nkOf d = some k then some 0 else (keyAt r k).map (· + 1) := rfl
theorem addG_at : ∀ {G : Grp} {p : List Int} {k : Int} {j : Nat}, keyAt (keysG G) (nkI p) = some j → ∃ r, G[j]? = some (p, r) ∧ addG G p k = G.set j (p, r ++ [k])
  | [], _, _, _, h => by cases h
  | (p', r) :: G, p, k, j, h => by
    have h : keyAt (tupI p' :: keysG G) (nkI p) = some j := h
    rw [keyAt_cons, nk_tupI] at h
    by_cases c : p' = p
    · subst c
      rw [if_pos rfl] at h
      cases h
      exact ⟨r, rfl, by unfold addG; rw [if_pos rfl]; rfl⟩
    · rw [if_neg (fun z => c (nkI_inj (Option.some.inj z)))] at h
      cases e : keyAt (keysG G) (nkI p) with
      | none => rw [e] at h; cases h
      | some j' =>
        rw [e] at h
        cases h
        obtain ⟨r', h1, h2⟩ := addG_at (k := k) e
        exact ⟨r', by rw [List.getElem?_cons_succ]; exact h1, by unfold addG; rw [if_neg c, h2]; rfl⟩
theorem addG_no : ∀ {G : Grp} {p : List Int} {k : Int}, keyAt (keysG G) (nkI p) = none → addG G p k = G ++ [(p, [k])]
  | [], _, _, _ => rfl
  | (p', r) :: G, p, k, h => by
    have h : keyAt (tupI p' :: keysG G) (nkI p) = none := h
    rw [keyAt_cons, nk_tupI] at h
    by_cases c : p' = p
    · rw [if_pos (by rw [c])] at h; cases h
    · rw [if_neg (fun z => c (nkI_inj (Option.some.inj z)))] at h
      have e : keyAt (keysG G) (nkI p) = none := by
        cases e : keyAt (keysG G) (nkI p) with
        | none => rfl
        | some j' => rw [e] at h; cases h
      unfold addG
      rw [if_neg c, addG_no e]; rfl
theorem addG_len (G : Grp) (p : List Int) (k : Int) : (addG G p k).length ≤ G.length + 1 := by
  cases e : keyAt (keysG G) (nkI p) with
  | none => rw [addG_no e, List.length_append]; exact Nat.le_refl _
  | some j =>
    obtain ⟨r, _, h⟩ := addG_at (k := k) e
    rw [h, List.length_set]; omega
theorem grpL_snoc (f : Int → List Int) (ks : List Int) (k : Int) : grpL f (ks ++ [k]) = addG (grpL f ks) (f k) k := by unfold grpL; rw [List.foldl_append]; rfl
structure GrpOk (f : Int → List Int) (ks : List Int) (G : Grp) : Prop where
  len : G.length ≤ ks.length
  key : ∀ g ∈ G, ∀ k ∈ g.2, k ∈ ks ∧ f k = g.1
  all : ∀ k ∈ ks, ∃ g ∈ G, g.1 = f k ∧ k ∈ g.2
  ne : ∀ g ∈ G, g.2 ≠ []
  cnt : ∀ g ∈ G, g.2.length ≤ ks.length
  nd : (G.map (·.1)).Nodup
theorem addG_keys {G : Grp} {p : List Int} {k : Int} : (addG G p k).map (·.1) = if p ∈ G.map (·.1) then G.map (·.1) else G.map (·.1) ++ [p] := by
  induction G with
  | nil => rfl
  | cons g G ih =>
    obtain ⟨p', r⟩ := g
    unfold addG
    by_cases c : p' = p
    · rw [if_pos c, if_pos (by simp [c])]; rfl
    · rw [if_neg c, List.map_cons, ih]
      show p' :: (if p ∈ G.map (·.1) then G.map (·.1) else G.map (·.1) ++ [p]) = if p ∈ p' :: G.map (·.1) then p' :: G.map (·.1) else (p' :: G.map (·.1)) ++ [p]
      by_cases m : p ∈ G.map (·.1)
      · rw [if_pos m, if_pos (List.mem_cons_of_mem _ m)]
      · rw [if_neg m, if_neg (fun z => by rcases List.mem_cons.mp z with z | z; exact c z.symm; exact m z)]; rfl
theorem addG_mem : ∀ {G : Grp} {p : List Int} {k : Int} {g : List Int × List Int}, g ∈ addG G p k → (g ∈ G ∧ g.1 ≠ p) ∨ (g ∈ G ∧ False) ∨ (g.1 = p ∧ ((∃ r, (p, r) ∈ G ∧ g.2 = r ++ [k]) ∨ g.2 = [k])) ∨ g ∈ G
  | [], p, k, g, h => by
    have h : g = (p, [k]) := by simpa [addG] using h
    subst h
    exact .inr (.inr (.inl ⟨rfl, .inr rfl⟩))
  | (p', r) :: G, p, k, g, h => by
    unfold addG at h
    by_cases c : p' = p
    · rw [if_pos c] at h
      rcases List.mem_cons.mp h with rfl | h
      · exact .inr (.inr (.inl ⟨c, .inl ⟨r, by rw [← c]; exact List.mem_cons_self, rfl⟩⟩))
      · exact .inr (.inr (.inr (List.mem_cons_of_mem _ h)))
    · rw [if_neg c] at h
      rcases List.mem_cons.mp h with rfl | h
      · exact .inr (.inr (.inr List.mem_cons_self))
      · rcases addG_mem h with ⟨h1, h2⟩ | ⟨_, z⟩ | ⟨h1, ⟨r', h2, h3⟩ | h2⟩ | h1
        · exact .inl ⟨List.mem_cons_of_mem _ h1, h2⟩
        · exact z.elim
        · exact .inr (.inr (.inl ⟨h1, .inl ⟨r', List.mem_cons_of_mem _ h2, h3⟩⟩))
        · exact .inr (.inr (.inl ⟨h1, .inr h2⟩))
        · exact .inr (.inr (.inr (List.mem_cons_of_mem _ h1)))
theorem addG_has : ∀ {G : Grp} {p : List Int} {k : Int}, (∃ g ∈ addG G p k, g.1 = p ∧ k ∈ g.2) ∧ ∀ g ∈ G, ∃ g' ∈ addG G p k, g'.1 = g.1 ∧ ∀ x ∈ g.2, x ∈ g'.2
  | [], p, k => ⟨⟨(p, [k]), by simp [addG], rfl, by simp⟩, fun g h => by cases h⟩
  | (p', r) :: G, p, k => by
    unfold addG
    by_cases c : p' = p
    · rw [if_pos c]
      refine ⟨⟨_, List.mem_cons_self, c, by simp⟩, fun g h => ?_⟩
      rcases List.mem_cons.mp h with rfl | h
      · exact ⟨_, List.mem_cons_self, rfl, fun x hx => List.mem_append_left _ hx⟩
      · exact ⟨g, List.mem_cons_of_mem _ h, rfl, fun x hx => hx⟩
    · rw [if_neg c]
      obtain ⟨⟨g0, h1, h2⟩, h3⟩ := addG_has (G := G) (p := p) (k := k)
      refine ⟨⟨g0, List.mem_cons_of_mem _ h1, h2⟩, fun g h => ?_⟩
      rcases List.mem_cons.mp h with rfl | h
      · exact ⟨_, List.mem_cons_self, rfl, fun x hx => hx⟩
      · obtain ⟨g', h4, h5⟩ := h3 g h
        exact ⟨g', List.mem_cons_of_mem _ h4, h5⟩
theorem GrpOk.add {f : Int → List Int} {ks : List Int} {G : Grp} (h : GrpOk f ks G) (k : Int) : GrpOk f (ks ++ [k]) (addG G (f k) k) where
  len := by have := addG_len G (f k) k; have := h.len; rw [List.length_append, List.length_singleton]; omega
  key := fun g hg x hx => by
    rcases addG_mem hg with ⟨h1, _⟩ | ⟨_, z⟩ | ⟨h1, ⟨r, h2, h3⟩ | h2⟩ | h1
    · exact ⟨List.mem_append_left _ (h.key g h1 x hx).1, (h.key g h1 x hx).2⟩
    · exact z.elim
    · rw [h3] at hx
      rcases List.mem_append.mp hx with hx | hx
      · have := h.key _ h2 x hx
        exact ⟨List.mem_append_left _ this.1, this.2.trans h1.symm⟩
      · rw [List.mem_singleton.mp hx]; exact ⟨by simp, h1.symm⟩
    · rw [h2] at hx
      rw [List.mem_singleton.mp hx]; exact ⟨by simp, h1.symm⟩
    · exact ⟨List.mem_append_left _ (h.key g h1 x hx).1, (h.key g h1 x hx).2⟩
  all := fun x hx => by
    rcases List.mem_append.mp hx with hx | hx
    · obtain ⟨g, h1, h2, h3⟩ := h.all x hx
      obtain ⟨g', h4, h5, h6⟩ := addG_has.2 g h1
      exact ⟨g', h4, h5.trans h2, h6 x h3⟩
    · rw [List.mem_singleton.mp hx]
      exact addG_has.1
  ne := fun g hg => by
    rcases addG_mem hg with ⟨h1, _⟩ | ⟨_, z⟩ | ⟨h1, ⟨r, h2, h3⟩ | h2⟩ | h1
    · exact h.ne g h1
    · exact z.elim
    · rw [h3]; simp
    · rw [h2]; simp
    · exact h.ne g h1
  cnt := fun g hg => by
    rw [List.length_append, List.length_singleton]
    rcases addG_mem hg with ⟨h1, _⟩ | ⟨_, z⟩ | ⟨h1, ⟨r, h2, h3⟩ | h2⟩ | h1
    · have := h.cnt g h1; omega
    · exact z.elim
    · rw [h3, List.length_append, List.length_singleton]; have : r.length ≤ _ := h.cnt _ h2; omega
    · rw [h2, List.length_singleton]; omega
    · have := h.cnt g h1; omega
  nd := by
    rw [addG_keys]
    split
    · exact h.nd
    · rename_i m
      rw [List.nodup_append]
      refine ⟨h.nd, by simp, fun a ha b hb e => m ?_⟩
      have this : b = f k := by simpa using hb
      rw [← this, ← e]; exact ha
theorem GrpOk.nil (f : Int → List Int) : GrpOk f [] [] where
  len := Nat.le_refl _
  key := fun g h => by cases h
  all := fun g h => by cases h
  ne := fun g h => by cases h
  cnt := fun g h => by cases h
  nd := List.nodup_nil
theorem grpL_ok (f : Int → List Int) (ks : List Int) : GrpOk f ks (grpL f ks) := by
  have key : ∀ (r done : List Int) (G : Grp), GrpOk f done G → GrpOk f (done ++ r) (r.foldl (fun G k => addG G (f k) k) G) := by
    intro r
    induction r with
    | nil => intro done G h; rw [List.append_nil]; exact h
    | cons k r ih =>
      intro done G h
      have := ih (done ++ [k]) _ (h.add k)
      rw [List.append_assoc] at this
      exact this
  have := key ks [] [] (GrpOk.nil f)
  rw [List.nil_append] at this
  exact this
def grpD (G : Grp) : List (D × D) := G.map fun g => (tupI g.1, .lst (g.2.map .int))
theorem grpD_zip : ∀ G : Grp, (keysG G).zip ((lstsG G).map D.lst) = grpD G
  | [] => rfl
  | g :: G => congrArg _ (grpD_zip G)
theorem grpD_keys (G : Grp) : (grpD G).map (·.1) = keysG G := by unfold grpD keysG; rw [List.map_map]; rfl
theorem look_grp : ∀ {G : Grp} {g : List Int × List Int}, (G.map (·.1)).Nodup → g ∈ G → lookK (grpD G) (nkI g.1) = some (.lst (g.2.map .int))
  | [], _, _, h => by cases h
  | a :: G, g, nd, h => by
    rw [List.map_cons, List.nodup_cons] at nd
    unfold lookK
    show (((tupI a.1, D.lst (a.2.map .int)) :: grpD G).find? (sameK (nkI g.1))).map (·.2) = _
    rw [List.find?_cons]
    rcases List.mem_cons.mp h with rfl | h
    · rw [show sameK (nkI g.1) (tupI g.1, D.lst (g.2.map .int)) = true by unfold sameK; simp only [nk_tupI, decide_true]]
      rfl
    · have c : a.1 ≠ g.1 := fun z => nd.1 (by rw [z]; exact List.mem_map_of_mem h)
      rw [show sameK (nkI g.1) (tupI a.1, D.lst (a.2.map .int)) = false by unfold sameK; simp only [nk_tupI, Option.some.injEq, decide_eq_false_iff_not]; exact fun z => c (nkI_inj z)]
      exact look_grp nd.2 h
abbrev cpD (p : Int × Int) : D := .tup [.int p.1, .int p.2]
theorem key_pair {p : Int × Int} {f : NestedKey → Prop} (h : f (nkI [p.1, p.2])) : asKey (cpD p) f := key_tupI (p := [p.1, p.2]) h
structure PrsOk (kvs : List (D × D)) (T : List (Int × Int)) : Prop where
  len : kvs.length ≤ T.length
  has : ∀ p : Int × Int, hasK kvs (nkI [p.1, p.2]) = decide (p ∈ T)
theorem PrsOk.nil : PrsOk [] [] := ⟨Nat.le_refl _, fun p => rfl⟩
theorem hasK_put (kvs : List (D × D)) (d v : D) (k k' : NestedKey) (hd : nkOf d = some k) : hasK (putD kvs d v k) k' = (hasK kvs k' || decide (k = k')) := by
  unfold putD
  cases e : hasK kvs k with
  | true =>
    rw [if_pos rfl]
    have : hasK (kvs.map fun p => if sameK k p = true then (p.1, v) else p) k' = hasK kvs k' := by
      unfold hasK
      rw [List.any_map]
      congr 1
      funext p
      show sameK k' (if sameK k p = true then (p.1, v) else p) = sameK k' p
      split <;> rfl
    rw [this]
    by_cases c : k = k'
    · subst c; rw [e]; simp
    · simp [c]
  | false =>
    rw [if_neg (by simp)]
    unfold hasK
    rw [List.any_append]
    congr 1
    show (sameK k' (d, v) || false) = _
    unfold sameK
    rw [Bool.or_false, hd]
    simp
theorem PrsOk.put {kvs : List (D × D)} {T : List (Int × Int)} {v : D} (h : PrsOk kvs T) (p : Int × Int) : PrsOk (putD kvs (cpD p) v (nkI [p.1, p.2])) (T ++ [p]) where
  len := by have := putD_len kvs (cpD p) v (nkI [p.1, p.2]); have := h.len; rw [List.length_append, List.length_singleton]; omega
  has := fun r => by
    rw [hasK_put kvs (cpD p) v _ (nkI [r.1, r.2]) (show nkOf (cpD p) = some (nkI [p.1, p.2]) from nk_tupI [p.1, p.2]), h.has r]
    by_cases c : p = r
    · subst c; simp
    · have : nkI [p.1, p.2] ≠ nkI [r.1, r.2] := fun z => c (by have := nkI_inj z; injection this with e1 e2; injection e2 with e2; exact Prod.ext e1 e2)
      simp [this, Ne.symm c]
end Px
set_option Elab.async false
set_option linter.all false
set_option maxRecDepth 100000
namespace Px
open PySem PySem.Spec PyProof.Rows L2
theorem cutD_lastT (l : List D) : cutD l none (some (-1)) = l.dropLast := by
  have h1 : HT.sIx l.length 0 none = 0 := by unfold HT.sIx; rfl
  have h2 : HT.sIx l.length l.length (some (-1)) = l.length - 1 := by unfold HT.sIx; simp; omega
  unfold cutD
  rw [h1, h2, List.drop_zero, Nat.sub_zero, List.dropLast_eq_take]
def cellD (d : D) (t b : Int) : Int := match d with
  | .tup [.str _, .int h, .tup el, .tup _] => cellI (intsL el) (near (2 * h * b) t) b
  | _ => 0
theorem cell_look {s : Str} {h : Int} {es gs : List Int} {t b : Int} : cellD (.tup [.str s, .int h, .tup (es.map .int), .tup (gs.map .int)]) t b = cellI es (near (2 * h * b) t) b := by
  simp [cellD, intsL_map]
def isLk (l : List D) (a : Int) : Bool := match atI l a with | some d => decide (sortS d = "look") | none => false
def cellA (l : List D) (t b a : Int) : Int := match atI l a with | some d => cellD d t b | none => 0
def takenP (l : List D) (t b : Int) (p : List Int) : List (Int × Int) := (p.filter (isLk l)).map fun a => (a, cellA l t b a)
theorem taken_len (l : List D) (t b : Int) (p : List Int) : (takenP l t b p).length ≤ p.length := by unfold takenP; rw [List.length_map]; exact List.length_filter_le _ _
theorem isLk_at {l : List D} {a : Int} {d : D} (h : atI l a = some d) : isLk l a = decide (sortS d = "look") := by unfold isLk; rw [h]
theorem pth_looks {l : List D} (h : RowsOk l) {t b : Int} : ∀ (n : Nat) (p : List Int) (a : Int), PthI l.length p a → n + p.length = 22 → (∀ k ∈ p.dropLast, isLk l k = true) → ∀ k ∈ (pthF (nxP l t b) n p a).dropLast, isLk l k = true
  | 0, p, a, hp, hn, hd => hd
  | n + 1, p, a, hp, hn, hdl => by
    obtain ⟨a0, a1⟩ := hp.rg a hp.mem
    obtain ⟨d, hd, hdm, hk⟩ := h.at a0 a1
    have e : nxP l t b a = goalD d t b := by unfold nxP; rw [hd]; rfl
    show ∀ k ∈ (match nxP l t b a with | none => p | some g => if g ∈ p then p ++ [g] else pthF (nxP l t b) n (p ++ [g]) g).dropLast, isLk l k = true
    obtain ⟨s1, s2⟩ := sort_look (t := t) (b := b) hk
    by_cases c : sortS d = "look"
    · obtain ⟨g, hg, g0, g1⟩ := s1 c
      rw [e, hg]
      have hall : ∀ k ∈ (p ++ [g]).dropLast, isLk l k = true := fun k hk => by
        rw [List.dropLast_concat] at hk
        have hne : p ≠ [] := by intro z; have := hp.la; rw [z] at this; cases this
        have ep : p = p.dropLast ++ [a] := by
          have e1 : p.getLast hne = a := by
            have := hp.la
            rw [List.getLast?_eq_some_getLast hne] at this
            exact Option.some.inj this
          rw [← e1, List.dropLast_concat_getLast]
        rw [ep] at hk
        rcases List.mem_append.mp hk with hk | hk
        · exact hdl k hk
        · rw [List.mem_singleton.mp hk, isLk_at hd]; exact decide_eq_true c
      show ∀ k ∈ (if g ∈ p then p ++ [g] else pthF (nxP l t b) n (p ++ [g]) g).dropLast, isLk l k = true
      by_cases c2 : g ∈ p
      · rw [if_pos c2]; exact hall
      · rw [if_neg c2]
        exact pth_looks h n (p ++ [g]) g (hp.app c2 g0 (by omega)) (by rw [List.length_append]; show n + (p.length + 1) = 22; omega) hall
    · rw [e, (s2 c).1]
      exact hdl
theorem path_looks {l : List D} (h : RowsOk l) (t b : Int) : ∀ k ∈ (pathP l t b).dropLast, isLk l k = true := pth_looks h 21 [0] 0 (pthI0 h) rfl fun k hk => by cases hk
theorem path_filter {l : List D} (h : RowsOk l) {t b a : Int} (ha : (pathP l t b).getLast? = some a) : (pathP l t b).filter (isLk l) = if isLk l a = true then pathP l t b else (pathP l t b).dropLast := by
  have hl := path_looks h t b
  generalize pathP l t b = p at ha hl
  have hne : p ≠ [] := by intro z; rw [z] at ha; cases ha
  have ep : p = p.dropLast ++ [a] := by
    have e1 : p.getLast hne = a := by
      rw [List.getLast?_eq_some_getLast hne] at ha
      exact Option.some.inj ha
    rw [← e1, List.dropLast_concat_getLast]
  have hf : p.dropLast.filter (isLk l) = p.dropLast := List.filter_eq_self.mpr hl
  have e2 : p.filter (isLk l) = p.dropLast ++ [a].filter (isLk l) := by
    conv => lhs; rw [ep]
    rw [List.filter_append, hf]
  rw [e2]
  cases c : isLk l a with
  | true => rw [if_pos rfl, List.filter_cons, if_pos c]; exact ep.symm
  | false => rw [if_neg (by simp), List.filter_cons, if_neg (by rw [c]; simp)]; exact List.append_nil _
theorem ev_cell (C : Cl) {w : PWi} {ρ : Rho} {M : Mm} {pr pt pb : PTE} {d : D} {many t b : Int} (hk : RowK many d) (hl : sortS d = "look") (hr : Ev pr w ρ M d) (ht : Ev pt w ρ M (.int t)) (hb : Ev pb w ρ M (.int b)) (rg : 0 ≤ t ∧ 0 < b ∧ b ≤ 2 ^ 1000) :
    Ev (dCall (sp_cell_of C) [] (dCons (dOp fIx pr (dC (.int 2))) (dCons (dCall (sp_folded C) [] (dCons (dOp fIx pr (dC (.int 1))) (dCons pt (dCons pb dNil)))) dNil))) w ρ M (.int (cellD d t b)) := by
  obtain ⟨t0, b0, b1⟩ := rg
  cases hk with
  | tell s h => exact absurd (show ("tell" : Str) = "look" from hl) (by decide +kernel)
  | look h es gs h0 ha he hll hgs hn =>
    have nb := near_bounds (s := 2 * h * b) (Int.mul_pos (by omega) b0) t
    obtain ⟨u, v, gg, es1, u0, v0, g0', ex, ey, ux, vy⟩ := spd_parts nb.1 b0
    have e0 : foldD h t b = .tup [.int u, .int v] := es1
    have e1 : cellI es u v = cellI es (near (2 * h * b) t) b := by
      rw [← cellI_mul g0' es u v, ← ex, ← ey]
    rw [cell_look, ← e1]
    refine ev_call (eva_cons (ixT_ev hr ev_c at2) (eva_cons (ev_call (v := .tup [.int u, .int v]) (eva_cons (ixT_ev hr ev_c at1) (eva_cons ht (eva_cons hb eva_nil))) fun q e hq => ⟨⟨by omega, t0, b0⟩, ⟨by omega, b1⟩, by rw [e0]; exact hq⟩) eva_nil)) fun q e hq => ⟨es, u, v, rfl, rfl, ⟨by omega, fun e hm => by have := he e hm; omega, by omega, by omega⟩, hq⟩
def sp_taken_by (C : Cl) : PSp := fun ds M q _ => ar4 ds fun d x y z => ∃ l t b, d = .tup l ∧ x = tupI (pathP l t b) ∧ y = .int t ∧ z = .int b ∧ RowsOk l ∧ (0 ≤ t ∧ 0 < b ∧ b ≤ 2 ^ 1000) ∧ q (.lst ((takenP l t b (pathP l t b)).map cpD)) M
def rd_taken_by (C : Cl) : PTS := (dSeq (dSet 4 (dIf (dTst (dOp fEq (dOp fIx (dOp fIx (dVar 0) (dOp fIx (dVar 1) (dNeg (dC (.int 1))))) (dC (.int 0))) (dC (.str "look")))) (dVar 1) (dSl (dVar 1) dNo (dPt (dNeg (dC (.int 1)))))))
    (dRet (dL (dComp [5] (iA (dVar 4)) (gNm 5) dYes (dTup (dCons (dVar 5) (dCons (dCall (sp_cell_of C) [] (dCons (dOp fIx (dOp fIx (dVar 0) (dVar 5)) (dC (.int 2))) (dCons (dCall (sp_folded C) [] (dCons (dOp fIx (dOp fIx (dVar 0) (dVar 5)) (dC (.int 1))) (dCons (dVar 2) (dCons (dVar 3) dNil)))) dNil))) dNil)))))))
theorem sh_taken_by (C : Cl) : Shows (sp_taken_by C) 6 (rd_taken_by C) := by
  intro ds M q e h
  obtain ⟨d, x, y, z, rfl, l, t, b, rfl, rfl, rfl, rfl, hr, ⟨t0, b0, b1⟩, hq⟩ := ar4_of h
  clear h
  obtain ⟨a, he⟩ := path_end hr t b
  obtain ⟨a0, a1⟩ := he.rg a (List.mem_of_getLast? he.la)
  obtain ⟨d, hd, hdm, hk⟩ := hr.at a0 a1
  have hpf := path_filter hr he.la
  have e1 : ∀ (w : PWi) (x4 x5 : Option Sv), Ev (dOp fIx (dVar 0) (dOp fIx (dVar 1) (dNeg (dC (.int 1))))) w [some (.val (.tup l)), some (.val (tupI (pathP l t b))), some (.val (.int t)), some (.val (.int b)), x4, x5] M d := fun w x4 x5 => ixT_ev (ev_var rfl) (ixT_ev (ev_var rfl) (ev_neg ev_c) (at_lastD he.la)) hd
  have e2 : ∀ (w : PWi), Ev (dIf (dTst (dOp fEq (dOp fIx (dOp fIx (dVar 0) (dOp fIx (dVar 1) (dNeg (dC (.int 1))))) (dC (.int 0))) (dC (.str "look")))) (dVar 1) (dSl (dVar 1) dNo (dPt (dNeg (dC (.int 1)))))) w [some (.val (.tup l)), some (.val (tupI (pathP l t b))), some (.val (.int t)), some (.val (.int b)), none, none] M (tupI ((pathP l t b).filter (isLk l))) := fun w => by
    refine ev_ife (evt (ev_is hk (by decide +kernel) (e1 w none none))) (fun c => ?_) (fun c => ?_)
    · rw [hpf, isLk_at hd, if_pos c]; exact ev_var rfl
    · rw [hpf, isLk_at hd, c, if_neg (by simp)]
      intro q hq
      show q (.tup (cutD ((pathP l t b).map D.int) none (some (-1)))) M
      rw [cutD_lastT, ← List.map_dropLast]
      exact hq
  refine sqSet (e2 _) ?_
  refine ret_ev (d := .lst ((takenP l t b (pathP l t b)).map cpD)) (ev_lc fun q hq => ⟨rfl, ?_⟩) ⟨M, MLe.refl M, hq⟩
  have hsub : ∀ k ∈ (pathP l t b).filter (isLk l), 0 ≤ k ∧ k < l.length := fun k hk => he.rg k (List.mem_filter.mp hk).1
  have hlk : ∀ k ∈ (pathP l t b).filter (isLk l), isLk l k = true := fun k hk => (List.mem_filter.mp hk).2
  refine compR_on (c := D.int) (f := fun k => cpD (k, cellA l t b k)) _ (fun k hk κ kf hκ => ?_) (Nat.le_trans (List.length_filter_le _ _) (Nat.le_trans he.len (by decide))) ?_
  · obtain ⟨k0, k1⟩ := hsub k hk
    obtain ⟨d', hd', _, hk'⟩ := hr.at k0 k1
    have hl' := hlk k hk
    rw [isLk_at hd'] at hl'
    have ec : cellA l t b k = cellD d' t b := by unfold cellA; rw [hd']
    have := ev_tup (w := w0) (ρ := [some (.val (.tup l)), some (.val (tupI (pathP l t b))), some (.val (.int t)), some (.val (.int b)), some (.val (tupI ((pathP l t b).filter (isLk l)))), some (.val (.int k))]) (M := M)
      (eva_cons (pa := dVar 5) (ev_var rfl) (eva_cons (ev_cell C hk' (of_decide_eq_true hl') (pr := dOp fIx (dVar 0) (dVar 5)) (ixT_ev (ev_var rfl) (ev_var rfl) hd') (pt := dVar 2) (ev_var rfl) (pb := dVar 3) (ev_var rfl) ⟨t0, b0, b1⟩) eva_nil)) (by show 2 ≤ 1000000; decide)
    rw [← ec] at this
    exact this _ hκ
  · unfold takenP at hq
    rw [List.map_map] at hq
    exact hq
end Px
set_option Elab.async false
set_option linter.all false
set_option maxRecDepth 100000
namespace Px
open PySem PySem.Spec PyProof.Rows L2
def sp__law_taken (C : Cl) : PSp := fun ds M q _ => ar3 ds fun d x y => ∃ l p t b, d = .tup l ∧ x = tupI p ∧ y = .tup [.int t, .int b] ∧ RowsOk l ∧ (∀ k ∈ p, 0 ≤ k ∧ k < l.length) ∧ p.length ≤ 100 ∧ (0 ≤ t ∧ t ≤ 10 ^ 60 ∧ 0 < b ∧ b ≤ 10 ^ 60) ∧ q (.lst ((takenP l t b p).map cpD)) M
def rd__law_taken (C : Cl) : PTS := (dSeq (dSetO 3 (dLst dNil))
    (dSeq (dFor (iA (dVar 1)) (gNm 4) (dIfS (dTst (dOp fEq (dOp fIx (dOp fIx (dVar 0) (dVar 4)) (dC (.int 0))) (dC (.str "look")))) (dSeq (dAsg (dCall (sp__law_seen C) [] (dCons (dOp fIx (dOp fIx (dVar 0) (dVar 4)) (dC (.int 1))) (dCons (dVar 2) dNil))) (gTp 2 (gsCons (gNm 5) (gsCons (gNm 6) gsNil))))
    (dApp 3 (dTup (dCons (dVar 4) (dCons (dCall (sp__law_cell C) [] (dCons (dOp fIx (dOp fIx (dVar 0) (dVar 4)) (dC (.int 2))) (dCons (dVar 5) (dCons (dVar 6) dNil)))) dNil))))) dNext))
    (dFrz 3 (dRet (dVar 3)))))
theorem taken_snoc {l : List D} {t b : Int} {p : List Int} {k : Int} : takenP l t b (p ++ [k]) = takenP l t b p ++ (if isLk l k = true then [(k, cellA l t b k)] else []) := by
  unfold takenP
  rw [List.filter_append, List.map_append, List.filter_cons]
  cases isLk l k <;> rfl
theorem sh__law_taken (C : Cl) : Shows (sp__law_taken C) 7 (rd__law_taken C) := by
  intro ds M q e h
  obtain ⟨d, x, y, rfl, l, p, t, b, rfl, rfl, rfl, hr, hp, hl, ⟨t0, t1, b0, b1⟩, hq⟩ := ar3_of h
  clear h
  refine ⟨by decide, ?_⟩
  refine forR_ix (fun i ρ M' => M' = M ∧ ∃ x4 x5 x6 : Option Sv, ρ = [some (.val (.tup l)), some (.val (tupI p)), some (.val (.tup [.int t, .int b])), some (.own ((takenP l t b (p.take i)).map cpD)), x4, x5, x6]) _ 0 ?_ ?_ _ _ ⟨rfl, none, none, none, rfl⟩
  · rintro i d hd F hF ρ M' ⟨rfl, x4, x5, x6, rfl⟩
    obtain ⟨hi, hd⟩ := List.getElem?_eq_some_iff.mp hd
    rw [List.getElem_map] at hd
    subst hd
    rw [List.length_map] at hi
    obtain ⟨k0, k1⟩ := hp _ (List.getElem_mem hi)
    have hF2 : ∀ ρ, (∃ x4 x5 x6 : Option Sv, ρ = [some (.val (.tup l)), some (.val (tupI p)), some (.val (.tup [.int t, .int b])), some (.own ((takenP l t b (p.take i) ++ (if isLk l p[i] = true then [(p[i], cellA l t b p[i])] else [])).map cpD)), x4, x5, x6]) → F ρ M' := fun ρ ⟨x4, x5, x6, e⟩ => hF ρ M' ⟨rfl, x4, x5, x6, by
      rw [e, ← taken_snoc, show p.take i ++ [p[i]] = p.take (0 + i + 1) by rw [Nat.zero_add, List.take_add_one, List.getElem?_eq_getElem hi]; rfl]⟩
    generalize hk : p[i] = k at k0 k1 hF2
    have htl : ((takenP l t b (p.take i)).map cpD).length < 1000000 := by
      rw [List.length_map]
      have h1 := taken_len l t b (p.take i)
      rw [List.length_take] at h1
      omega
    rw [Nat.zero_add]
    generalize (takenP l t b (p.take i)) = T at hF2 htl
    obtain ⟨d, hd, hdm, hrk⟩ := hr.at k0 k1
    have e5 : ∀ (w : PWi), EvT (dTst (dOp fEq (dOp fIx (dOp fIx (dVar 0) (dVar 4)) (dC (.int 0))) (dC (.str "look")))) w [some (.val (.tup l)), some (.val (tupI p)), some (.val (.tup [.int t, .int b])), some (.own (T.map cpD)), some (.val (.int k)), x5, x6] M' (decide (sortS d = "look")) := fun w =>
      evt (ev_is hrk (by decide +kernel) (ixT_ev (ev_var rfl) (ev_var rfl) hd))
    have e2 : ∀ (w : PWi) (y5 y6 : Option Sv), Ev (dOp fIx (dVar 0) (dVar 4)) w [some (.val (.tup l)), some (.val (tupI p)), some (.val (.tup [.int t, .int b])), some (.own (T.map cpD)), some (.val (.int k)), y5, y6] M' d := fun w y5 y6 => ixT_ev (ev_var rfl) (ev_var rfl) hd
    rw [isLk_at hd] at hF2
    refine if_ev (e5 _) (fun c => ?_) (fun c => ?_)
    · have c' := of_decide_eq_true c
      rw [if_pos c] at hF2
      have ec : cellA l t b k = cellD d t b := by unfold cellA; rw [hd]
      cases hrk with
      | tell s hs => exact absurd (show ("tell" : Str) = "look" from c') (by decide +kernel)
      | look hf es gs h0 ha he hll hgs hn =>
        have nb := near_bounds (s := 2 * hf * b) (Int.mul_pos (by omega) b0) t
        obtain ⟨u, v, gg, es1, u0, v0, g0', ex, ey, ux, vy⟩ := spd_parts nb.1 b0
        have e1 : cellI es u v = cellI es (near (2 * hf * b) t) b := by
          rw [← cellI_mul g0' es u v, ← ex, ← ey]
        refine sqAsg (d := .tup [.int u, .int v]) (ev_call (eva_cons (ixT_ev (e2 _ _ _) ev_c at1) (eva_cons (ev_var rfl) eva_nil)) fun q e hq => ⟨⟨by omega, by omega, t0, t1, b0, b1⟩, fun dd hdd => by rw [hdd, es1]; exact hq⟩) ?_
        refine ⟨rfl, ?_⟩
        refine app_ev (l := T.map cpD) rfl htl (d := cpD (k, cellA l t b k)) ?_ ?_
        · rw [ec, cell_look, ← e1]
          exact ev_tup (eva_cons (ev_var rfl) (eva_cons (ev_call (eva_cons (ixT_ev (e2 _ _ _) ev_c at2) (eva_cons (ev_var rfl) (eva_cons (ev_var rfl) eva_nil))) fun q e hq => ⟨es, rfl, ha, ⟨by omega, fun e hm => by have := he e hm; omega, v0, Int.le_trans vy (Int.le_trans b1 (by decide))⟩, hq⟩) eva_nil)) (by show 2 ≤ 1000000; decide)
        · exact hF2 _ ⟨_, _, _, by rw [List.map_append]; rfl⟩
    · rw [if_neg (by rw [c]; simp)] at hF2
      exact hF2 _ ⟨_, _, _, by rw [List.append_nil]; rfl⟩
  · rintro ρ M' ⟨rfl, x4, x5, x6, rfl⟩
    rw [Nat.zero_add, List.length_map, List.take_length]
    exact ⟨M', MLe.refl M', hq⟩
theorem lcm_hvs {l : List D} (h : RowsOk l) : lcmL (hvs l) = wholeL l := by
  have p1 := (hvL_wd h).pos
  have ph : PosL (hvs l) := fun n hn => p1 n ((hvs_mem h n).mp hn)
  have key : ∀ m : Int, lcmL (hvs l) ∣ m ↔ wholeL l ∣ m := by
    intro m
    rw [lcmL_dvd ph]
    show _ ↔ lcmL (hvL l) ∣ m
    rw [lcmL_dvd p1]
    exact ⟨fun hh n hn => hh n ((hvs_mem h n).mpr hn), fun hh n hn => hh n ((hvs_mem h n).mp hn)⟩
  have d1 := (key _).mpr (Int.dvd_refl _)
  have d2 := (key _).mp (Int.dvd_refl _)
  have e1 := Int.le_of_dvd (lcmL_pos p1) d1
  have e2 := Int.le_of_dvd (lcmL_pos ph) d2
  have e1 : lcmL (hvs l) ≤ wholeL l := e1
  omega
theorem hvs_wd1 {l : List D} (h : RowsOk l) : WdOk (hvs l) := ⟨by have := hvs_len h; omega, fun n hn => by have := hvL_rg h n ((hvs_mem h n).mp hn); omega⟩
def pathK (l : List D) (k : Int) : List Int := pathP l (tI k) (bI k)
def regs (l : List D) : List Int := ixs (2 * wholeL l + 1).toNat
def grpR (l : List D) : Grp := grpL (pathK l) (regs l)
theorem grpR_ok (l : List D) : GrpOk (pathK l) (regs l) (grpR l) := grpL_ok _ _
def sp_regions_by_path (C : Cl) : PSp := fun ds M q _ => ar1 ds fun s => ∃ l, s = prgD C l ∧ RowsOk l ∧ wholeL l ≤ 5040 ∧ ∀ c, M c = none → q (.tup [.int (wholeL l), .raw (.ref c)]) (updM M c (frzK (grpD (grpR l))))
def rd_regions_by_path (C : Cl) : PTS := (dSeq (dParED 1 2 (dCall (sp_need_small C) [] (dCons (dFld C.Program "p_halves" (dVar 0)) dNil)))
    (dSeq (dFor (iR1 (dOp fAdd (dOp fMul (dC (.int 2)) (dVar 1)) (dC (.int 1)))) (gNm 3) (dSeq (dAsg (dCall (sp_speed_in C) [] (dCons (dVar 3) dNil)) (gTp 2 (gsCons (gNm 4) (gsCons (gNm 5) gsNil))))
    (dSdA 2 (dCall (sp_path_of C) [] (dCons (dFld C.Program "p_rows" (dVar 0)) (dCons (dVar 4) (dCons (dVar 5) dNil)))) (dVar 3))))
    (dFzD 2 (dRet (dTup (dCons (dVar 1) (dCons (dVar 2) dNil)))))))
theorem keysG_len (G : Grp) : (keysG G).length = G.length := by unfold keysG; rw [List.length_map]
theorem lstsG_len (G : Grp) : (lstsG G).length = G.length := by unfold lstsG; rw [List.length_map]
theorem keysG_set (G : Grp) (j : Nat) (p r r' : List Int) (h : G[j]? = some (p, r)) : keysG (G.set j (p, r')) = keysG G := by
  unfold keysG
  rw [List.map_set]
  exact set_self (by rw [List.getElem?_map, h]; rfl)
theorem sh_regions_by_path (C : Cl) : Shows (sp_regions_by_path C) 6 (rd_regions_by_path C) := by
  intro ds M q e h
  obtain ⟨s, rfl, l, rfl, hr, hW, hq⟩ := ar1_of h
  clear h
  have wp : 0 < wholeL l := (hvL_wd hr).lcm.1
  have hq2 : ∀ c, M c = none → q (.tup [.int (wholeL l), .raw (.ref c)]) (updM M c (frzK (grpD (grpL (pathK l) (ixs (2 * wholeL l + 1).toNat))))) := hq
  clear hq
  have hl0 := lcm_hvs hr
  generalize wholeL l = W at hq2 wp hW hl0
  refine ⟨rfl, _, rfl, ?_⟩
  refine ⟨hvs l, .inr rfl, hvs_wd1 hr, by omega, ?_⟩
  rw [hl0]
  intro c hc
  refine ⟨mul_small (by decide) (by decide) (by omega) (by omega), by omega, by omega, ?_⟩
  rw [rngD0]
  refine forR_ix (fun i ρ M' => M' = M ∧ ∃ (ps : List Addr) (x3 x4 x5 : Option Sv), ps.length = (grpL (pathK l) (ixs i)).length ∧ ρ = [some (.val (prgD C l)), some (.val (.int W)), some (dctL c (keysG (grpL (pathK l) (ixs i))) ps (lstsG (grpL (pathK l) (ixs i)))), x3, x4, x5]) _ 0 ?_ ?_ _ _ ⟨rfl, [], none, none, none, rfl, rfl⟩
  · rintro i d hd F hF ρ M' ⟨rfl, ps, x3, x4, x5, hps, rfl⟩
    obtain ⟨hi, hd⟩ := List.getElem?_eq_some_iff.mp hd
    rw [List.getElem_map] at hd
    subst hd
    rw [List.length_map, ixs_len] at hi
    have ei : (ixs (2 * W + 1).toNat)[i]'(by rw [ixs_len]; exact hi) = (i : Int) := by unfold ixs; rw [List.getElem_map, List.getElem_range]
    rw [ei]
    rw [Nat.zero_add] at hF hps ⊢
    have hF2 : ∀ ρ, (∃ (ps : List Addr) (x3 x4 x5 : Option Sv), ps.length = (addG (grpL (pathK l) (ixs i)) (pathK l i) i).length ∧ ρ = [some (.val (prgD C l)), some (.val (.int W)), some (dctL c (keysG (addG (grpL (pathK l) (ixs i)) (pathK l i) i)) ps (lstsG (addG (grpL (pathK l) (ixs i)) (pathK l i) i))), x3, x4, x5]) → F ρ M' := fun ρ hh => hF ρ M' ⟨rfl, by rw [ixs_succ, grpL_snoc]; exact hh⟩
    have hGl := (grpL_ok (pathK l) (ixs i)).len
    have hGc := (grpL_ok (pathK l) (ixs i)).cnt
    rw [ixs_len] at hGl hGc
    generalize grpL (pathK l) (ixs i) = G at hF2 hps hGl hGc
    obtain ⟨b1, b2⟩ := bI_rg (i : Int)
    have t0 : 0 ≤ tI (i : Int) := (tI_rg (by omega) (show (i : Int) ≤ 2 * i by omega)).1
    refine ⟨by omega, rfl, ?_⟩
    refine ⟨c, ps, keysG G, lstsG G, rfl, by rw [lstsG_len]; exact hps, by rw [keysG_len]; exact hps.symm, ?_⟩
    refine ⟨rfl, _, rfl, l, rfl, hr, ⟨t0, by omega, Int.le_trans b2 (by decide)⟩, ?_⟩
    refine ⟨by rw [keysG_len]; omega, ?_⟩
    show asKey (tupI (pathK l i)) _
    refine key_tupI ⟨fun j hj => ?_, fun hn p => ?_⟩
    · obtain ⟨r, h1, h2⟩ := addG_at (k := (i : Int)) hj
      have hrl := hGc _ (List.mem_of_getElem? h1)
      refine ⟨r.map .int, by unfold lstsG; rw [List.getElem?_map, h1]; rfl, by rw [List.length_map]; show r.length < 1000000; have : r.length ≤ i := hrl; omega, ?_⟩
      refine hF2 _ ⟨ps, some (.val (.int i)), some (.val (.int (tI i))), some (.val (.int (bI i))), by rw [h2, List.length_set]; exact hps, ?_⟩
      rw [h2, keysG_set G j _ r _ h1]
      have : lstsG (G.set j (pathK l i, r ++ [(i : Int)])) = (lstsG G).set j (r.map .int ++ [.int i]) := by
        unfold lstsG
        rw [List.map_set, List.map_append]; rfl
      rw [this]
      rfl
    · have h2 := addG_no (k := (i : Int)) hn
      refine hF2 _ ⟨ps ++ [p], some (.val (.int i)), some (.val (.int (tI i))), some (.val (.int (bI i))), by rw [h2, List.length_append, List.length_append, hps]; rfl, ?_⟩
      rw [h2]
      have e1 : keysG (G ++ [(pathK l i, [(i : Int)])]) = keysG G ++ [tupI (pathK l i)] := by unfold keysG; rw [List.map_append]; rfl
      have e2 : lstsG (G ++ [(pathK l i, [(i : Int)])]) = lstsG G ++ [[.int i]] := by unfold lstsG; rw [List.map_append]; rfl
      rw [e1, e2]
      rfl
  · rintro ρ M' ⟨rfl, ps, x3, x4, x5, hps, rfl⟩
    rw [List.length_map, ixs_len, Nat.zero_add] at hps ⊢
    refine ⟨c, ps, _, _, rfl, by rw [lstsG_len]; exact hps, by rw [keysG_len]; exact hps.symm, ?_⟩
    refine ⟨by show 2 ≤ 1000000; decide, _, MLe.refl _, ?_⟩
    rw [grpD_zip]
    exact hq2 c hc
end Px
set_option Elab.async false
set_option linter.all false
set_option maxRecDepth 100000
namespace Px
open PySem PySem.Spec PyProof.Rows L2
theorem word_shape {l : List D} (h : RowsOk l) {p : List Int} {a : Int} (ha : p.getLast? = some a) (h0 : 0 ≤ a) (h1 : a < l.length) : (∃ s, wordP l p = .str s) ∨ wordP l p = .non := by
  obtain ⟨d, hd, _, hk⟩ := h.at h0 h1
  have ew : wordP l p = wordA l a := by unfold wordP; rw [ha]
  rw [ew]
  cases hk with
  | tell s hs => exact .inl ⟨s, wordA_tell hd⟩
  | look hh es gs q0 qa qe ql qg qn => exact .inr (wordA_look hd (RowK.look hh es gs q0 qa qe ql qg qn) (fun z => absurd (show ("look" : Str) = "tell" from z) (by decide +kernel)))
theorem word_nr {l : List D} (h : RowsOk l) (t b : Int) : noRaw (wordP l (pathP l t b)) = true := by
  obtain ⟨a, he⟩ := path_end h t b
  obtain ⟨a0, a1⟩ := he.rg a (List.mem_of_getLast? he.la)
  rcases word_shape h he.la a0 a1 with ⟨s, e⟩ | e <;> rw [e] <;> rfl
theorem ltP_pre {p q r : Int × Int} (h1 : ltP p q = true) (h2 : ltP r q = false) : ltP r p = false := by
  unfold ltP at *
  simp only [Bool.or_eq_true, Bool.and_eq_true, decide_eq_true_eq, Bool.or_eq_false_iff, Bool.and_eq_false_iff, decide_eq_false_iff_not, Bool.not_eq_true', Bool.not_eq_false', Bool.not_eq_eq_eq_not, Bool.not_true, Bool.not_false] at *
  omega
theorem lst_min : ∀ {ks : List Int}, ks ≠ [] → ∃ m ∈ ks, ∀ k ∈ ks, ltP (prH k) (prH m) = false
  | [], h => absurd rfl h
  | [k], _ => ⟨k, by simp, fun x hx => by
      rw [List.mem_singleton.mp hx]
      unfold ltP
      simp⟩
  | k :: j :: r, _ => by
    obtain ⟨m, hm, h⟩ := lst_min (ks := j :: r) (by simp)
    cases c : ltP (prH k) (prH m) with
    | true =>
      refine ⟨k, by simp, fun x hx => ?_⟩
      rcases List.mem_cons.mp hx with rfl | hx
      · unfold ltP; simp
      · exact ltP_pre c (h x hx)
    | false =>
      refine ⟨m, List.mem_cons_of_mem _ hm, fun x hx => ?_⟩
      rcases List.mem_cons.mp hx with rfl | hx
      · exact c
      · exact h x hx
theorem lstK_ext {ks ks' : List Int} (h : ∀ k, k ∈ ks ↔ k ∈ ks') : lstK ks = lstK ks' := by
  cases c : ks with
  | nil =>
    cases c' : ks' with
    | nil => rfl
    | cons k r => have := (h k).mpr (by rw [c']; simp); rw [c] at this; cases this
  | cons k r =>
    obtain ⟨m, hm, hmin⟩ := lst_min (ks := ks) (by rw [c]; simp)
    rw [← c, lstK_is hm hmin, lstK_is ((h m).mp hm) fun x hx => hmin x ((h x).mpr hx)]
def isNo (l : List D) (k : Int) : Bool := isN (wordP l (pathK l k))
def MostIs (l : List D) (d : D) : Prop := ((∃ k ∈ regs l, isNo l k = true) ∧ d = .non) ∨ ((∀ k ∈ regs l, isNo l k = false) ∧ ∃ m : Nat, (∃ k ∈ regs l, (pathK l k).length = m) ∧ (∀ k ∈ regs l, (pathK l k).length ≤ m) ∧ d = .tup [.int ((m : Int) - 1), lstK ((regs l).filter fun k => decide ((pathK l k).length = m))])
def sp_most_looks (C : Cl) : PSp := fun ds M q _ => ar1 ds fun s => ∃ l, s = prgD C l ∧ RowsOk l ∧ wholeL l ≤ 5040 ∧ ∀ d, MostIs l d → q d M
def rd_most_looks (C : Cl) : PTS := (dSeq (dSet 1 (dOp fIx (dCall (sp_regions_by_path C) [] (dCons (dVar 0) dNil)) (dC (.int 1))))
    (dSeq (dIfS (dTst (dB1 fAny (dL (dComp [4] (iKF (dVar 1)) (gNm 4) dYes (dOp fIs (dCall (sp_word_of C) [] (dCons (dFld C.Program "p_rows" (dVar 0)) (dCons (dVar 4) dNil))) (dC .non)))))) (dRet (dC .non)) dNext)
    (dSeq (dSet 2 (dB1 fMax (dL (dComp [4] (iKF (dVar 1)) (gNm 4) dYes (dB1 fLen (dVar 4))))))
    (dSeq (dSet 3 (dL (dComp2 [4, 5] [5] (iKF (dVar 1)) (gNm 4) (dTst (dOp fEq (dB1 fLen (dVar 4)) (dVar 2))) (iA (dGetFz (dVar 1) (dVar 4))) (gNm 5) dYes (dVar 5))))
    (dRet (dTup (dCons (dOp fSub (dVar 2) (dC (.int 1))) (dCons (dCall (sp_simplest_of C) [] (dCons (dVar 3) dNil)) dNil))))))))
theorem regs_mem {l : List D} (hW : 0 ≤ wholeL l) {k : Int} : k ∈ regs l ↔ 0 ≤ k ∧ k ≤ 2 * wholeL l := by
  constructor
  · intro h
    have := ixs_mem h
    omega
  · intro h
    exact List.mem_map.mpr ⟨k.toNat, by rw [List.mem_range]; omega, by omega⟩
theorem sum_addG : ∀ (G : Grp) (p : List Int) (k : Int), ((addG G p k).map fun g => g.2.length).sum = (G.map fun g => g.2.length).sum + 1
  | [], _, _ => rfl
  | (p', r) :: G, p, k => by
    unfold addG
    by_cases c : p' = p
    · rw [if_pos c, List.map_cons, List.map_cons, List.sum_cons, List.sum_cons]
      show (r ++ [k]).length + _ = r.length + _ + 1
      rw [List.length_append, List.length_singleton]; omega
    · rw [if_neg c, List.map_cons, List.map_cons, List.sum_cons, List.sum_cons, sum_addG G p k]; omega
theorem sum_grpL (f : Int → List Int) (ks : List Int) : ((grpL f ks).map fun g => g.2.length).sum = ks.length := by
  have key : ∀ (r : List Int) (G : Grp), ((r.foldl (fun G k => addG G (f k) k) G).map fun g => g.2.length).sum = (G.map fun g => g.2.length).sum + r.length := by
    intro r
    induction r with
    | nil => intro G; rfl
    | cons k r ih => intro G; rw [List.foldl_cons, ih, sum_addG, List.length_cons]; omega
  have := key ks []
  rw [show (List.map (fun g : List Int × List Int => g.2.length) []).sum = 0 from rfl, Nat.zero_add] at this
  exact this
def selG (m : Int) : Grp → List Int
  | [] => []
  | g :: G => (if (g.1.length : Int) = m then g.2 else []) ++ selG m G
theorem selG_len (m : Int) : ∀ G : Grp, (selG m G).length ≤ (G.map fun g => g.2.length).sum
  | [] => Nat.le_refl _
  | g :: G => by
    unfold selG
    rw [List.length_append, List.map_cons, List.sum_cons]
    have := selG_len m G
    split
    · omega
    · rw [List.length_nil]; omega
theorem selG_mem {m k : Int} : ∀ {G : Grp}, k ∈ selG m G ↔ ∃ g ∈ G, (g.1.length : Int) = m ∧ k ∈ g.2
  | [] => ⟨fun h => (by cases h), fun ⟨g, h, _⟩ => (by cases h)⟩
  | g :: G => by
    unfold selG
    rw [List.mem_append, selG_mem (G := G)]
    constructor
    · rintro (h | ⟨g', h1, h2⟩)
      · by_cases c : (g.1.length : Int) = m
        · rw [if_pos c] at h; exact ⟨g, by simp, c, h⟩
        · rw [if_neg c] at h; cases h
      · exact ⟨g', List.mem_cons_of_mem _ h1, h2⟩
    · rintro ⟨g', h1, h2, h3⟩
      rcases List.mem_cons.mp h1 with rfl | h1
      · left; rw [if_pos h2]; exact h3
      · exact .inr ⟨g', h1, h2, h3⟩
theorem comp_sel {c : Addr} {G : Grp} {M : Mm} {m : Int} {x0 x2 x3 : Option Sv} {q : List D → Mm → Prop} (hM : M c = some (frzK (grpD G))) (hnd : (G.map (·.1)).Nodup) (hm : x2 = some (.val (.int m))) : ∀ (G' : Grp) (acc : List D), (∀ g ∈ G', g ∈ G) →
    acc.length + (G'.map fun g => g.2.length).sum ≤ 1000000 → q (acc ++ (selG m G').map .int) M →
    compR2 (gNm 4) (dTst (dOp fEq (dB1 fLen (dVar 4)) (dVar 2))) (iA (dGetFz (dVar 1) (dVar 4))) (gNm 5) dYes (dVar 5) [5] [x0, some (.val (.raw (.ref c))), x2, x3, none, none] (keysG G') acc M q
  | [], acc, _, _, h => by
    have h : q (acc ++ []) M := h
    rw [List.append_nil] at h
    exact h
  | g :: G', acc, hs, hl, h => by
    subst hm
    rw [List.map_cons, List.sum_cons] at hl
    have ev : ∀ w, Ev (dOp fEq (dB1 fLen (dVar 4)) (dVar 2)) w [x0, some (.val (.raw (.ref c))), some (.val (.int m)), x3, some (.val (tupI g.1)), none] M (.bl (decide ((g.1.length : Int) = m))) := fun w => by
      have e := ev_op (w := w) (ρ := [x0, some (.val (.raw (.ref c))), some (.val (.int m)), x3, some (.val (tupI g.1)), none]) (M := M) (ev_b1 (pa := dVar 4) (g := fLen) (z := .int g.1.length) (ev_var rfl) (fun k hk => by show k (.int (g.1.map D.int).length); rw [List.length_map]; exact hk)) (ev_var (i := 2) (d := .int m) rfl) o2_eqI
      exact e
    show compR2 _ _ _ _ _ _ _ _ (tupI g.1 :: keysG G') acc M q
    unfold compR2
    refine evt (ev _) _ ?_
    have hh : q (acc ++ ((if (g.1.length : Int) = m then g.2 else []) ++ selG m G').map .int) M := h
    rw [List.map_append, ← List.append_assoc] at hh
    by_cases cc : (g.1.length : Int) = m
    · rw [decide_eq_true cc, if_pos rfl]
      rw [if_pos cc] at hh
      refine ⟨c, grpD G, rfl, hM, key_tupI ⟨_, look_grp hnd (hs g List.mem_cons_self), ?_⟩⟩
      have key : ∀ (ks : List Int) (acc' : List D) (y : Option Sv) (q' : List D → Mm → Prop), acc'.length + ks.length ≤ 1000000 → q' (acc' ++ ks.map .int) M → compR (gNm 5) dYes (dVar 5) [x0, some (.val (.raw (.ref c))), some (.val (.int m)), x3, y, none] (ks.map .int) acc' M q' := by
        intro ks
        induction ks with
        | nil => intro acc' y q' _ hq; rw [List.map_nil, List.append_nil] at hq; exact hq
        | cons k ks ih =>
          intro acc' y q' hl hq
          rw [List.length_cons] at hl
          refine ⟨by omega, ih (acc' ++ [.int k]) y q' (by rw [List.length_append, List.length_singleton]; omega) ?_⟩
          rw [List.append_assoc]; exact hq
      refine key g.2 acc _ _ (by omega) ?_
      exact comp_sel hM hnd rfl G' _ (fun g' hg => hs g' (List.mem_cons_of_mem _ hg)) (by rw [List.length_append, List.length_map]; omega) hh
    · rw [decide_eq_false cc, if_neg (by simp)]
      rw [if_neg cc, List.map_nil, List.append_nil] at hh
      exact comp_sel hM hnd rfl G' acc (fun g' hg => hs g' (List.mem_cons_of_mem _ hg)) (by omega) hh
theorem sh_most_looks (C : Cl) : Shows (sp_most_looks C) 6 (rd_most_looks C) := by
  intro ds M q e h
  obtain ⟨s, rfl, l, rfl, hr, hW, hq⟩ := ar1_of h
  clear h
  have wp : 0 < wholeL l := (hvL_wd hr).lcm.1
  have ok := grpR_ok l
  have hsum : ((grpR l).map fun g => g.2.length).sum = (regs l).length := sum_grpL _ _
  have hrl : (regs l).length ≤ 10081 := by unfold regs; rw [ixs_len]; omega
  have hGl := ok.len
  refine ⟨l, rfl, hr, hW, fun c hc => ⟨_, at1, ?_⟩⟩
  generalize hM : updM M c (frzK (grpD (grpR l))) = M1
  have hM1 : M1 c = some (frzK (grpD (grpR l))) := by rw [← hM]; exact updM_same
  have hle : MLe M M1 := by rw [← hM]; exact updM_le hc
  have hkey : ∀ g ∈ grpR l, ∃ k ∈ regs l, pathK l k = g.1 := fun g hg => by
    cases e : g.2 with
    | nil => exact absurd e (ok.ne g hg)
    | cons k r => have := ok.key g hg k (by rw [e]; simp); exact ⟨k, this.1, this.2⟩
  have h0 : (0 : Int) ∈ regs l := (regs_mem (by omega)).mpr ⟨by omega, by omega⟩
  have hw : ∀ g ∈ grpR l, ∀ (w : PWi) (ρ : Rho), ρ = [some (.val (prgD C l)), some (.val (.raw (.ref c))), none, none, some (.val (tupI g.1)), none] → Ev (dOp fIs (dCall (sp_word_of C) [] (dCons (dFld C.Program "p_rows" (dVar 0)) (dCons (dVar 4) dNil))) (dC .non)) w ρ M1 (.bl (isN (wordP l g.1))) := fun g hg w ρ e => by
    subst e
    obtain ⟨k, hk, ek⟩ := hkey g hg
    obtain ⟨a, he⟩ := path_end hr (tI k) (bI k)
    have hnr := word_nr hr (tI k) (bI k)
    have ek : pathP l (tI k) (bI k) = g.1 := ek
    rw [ek] at he hnr
    exact ev_op (ev_call (eva_cons (ev_fld (ev_var rfl) rfl) (eva_cons (ev_var rfl) eva_nil)) fun q e hq => ⟨l, g.1, rfl, rfl, hr, ⟨a, he.la, he.rg a (List.mem_of_getLast? he.la)⟩, hq⟩) ev_c (o2_isN hnr)
  refine ⟨rfl, ?_⟩
  refine ⟨c, _, rfl, hM1, ?_⟩
  rw [grpD_keys]
  unfold keysG
  refine compR_on (c := fun g : List Int × List Int => tupI g.1) (f := fun g => .bl (isN (wordP l g.1))) _ (fun g hg κ kf hκ => hw g hg _ _ rfl _ hκ) (by omega) ?_
  show match boolsOf ((grpR l).map fun g => D.bl (isN (wordP l g.1))) with | some bs => _ | _ => False
  rw [show (grpR l).map (fun g => D.bl (isN (wordP l g.1))) = ((grpR l).map fun g => isN (wordP l g.1)).map D.bl by rw [List.map_map]; rfl, boolsOf_map]
  show (if ((grpR l).map fun g => isN (wordP l g.1)).any id = true then _ else _)
  cases ca : ((grpR l).map fun g => isN (wordP l g.1)).any id with
  | true =>
    rw [if_pos rfl]
    rw [List.any_map, List.any_eq_true] at ca
    obtain ⟨g, hg, hn⟩ := ca
    obtain ⟨k, hk, ek⟩ := hkey g hg
    exact ⟨M, hle, hq _ (.inl ⟨⟨k, hk, by unfold isNo; rw [ek]; exact hn⟩, rfl⟩)⟩
  | false =>
    rw [if_neg (by simp)]
    rw [List.any_map, List.any_eq_false] at ca
    have hno : ∀ k ∈ regs l, isNo l k = false := fun k hk => by
      obtain ⟨g, hg, e1, _⟩ := ok.all k hk
      have := ca g hg
      unfold isNo
      rw [← e1]
      simpa using this
    refine ⟨rfl, ?_⟩
    refine ⟨c, _, rfl, hM1, ?_⟩
    rw [grpD_keys]
    unfold keysG
    refine compR_on (c := fun g : List Int × List Int => tupI g.1) (f := fun g => .int g.1.length) _ (fun g hg κ kf hκ => ?_) (by omega) ?_
    · show κ (.int (g.1.map D.int).length) M1
      rw [List.length_map]; exact hκ
    show match intsOf ((grpR l).map fun g => D.int g.1.length) with | some (n :: r) => _ | _ => False
    rw [show (grpR l).map (fun g => D.int g.1.length) = ((grpR l).map fun g => (g.1.length : Int)).map D.int by rw [List.map_map]; rfl, intsOf_mp]
    obtain ⟨g0, hg0, _⟩ := ok.all 0 h0
    cases eg : (grpR l).map fun g => (g.1.length : Int) with
    | nil => rw [List.map_eq_nil_iff] at eg; rw [eg] at hg0; cases hg0
    | cons n r =>
      show (dSeq (dSet 3 (dL (dComp2 [4, 5] [5] (iKF (dVar 1)) (gNm 4) (dTst (dOp fEq (dB1 fLen (dVar 4)) (dVar 2))) (iA (dGetFz (dVar 1) (dVar 4))) (gNm 5) dYes (dVar 5)))) _) _ _ _ _
      have m1 := maxL_mem r n
      have m2 := maxL_le r n
      generalize maxL n r = m at m1 m2
      have hmem : ∃ g ∈ grpR l, (g.1.length : Int) = m := by
        rw [← eg] at m1
        obtain ⟨g, h1, h2⟩ := List.mem_map.mp m1
        exact ⟨g, h1, h2⟩
      have hmax : ∀ g ∈ grpR l, (g.1.length : Int) ≤ m := fun g hg => by
        have : (g.1.length : Int) ∈ n :: r := by rw [← eg]; exact List.mem_map_of_mem hg
        rcases List.mem_cons.mp this with h | h
        · rw [h]; exact m2.1
        · exact m2.2 _ h
      refine ⟨rfl, ?_⟩
      refine ⟨c, _, rfl, hM1, ?_⟩
      rw [grpD_keys]
      refine comp_sel hM1 ok.nd rfl (grpR l) [] (fun g h => h) (by rw [List.length_nil, hsum]; omega) ?_
      rw [List.nil_append]
      have hsl : (selG m (grpR l)).length ≤ 10081 := Nat.le_trans (selG_len m _) (by rw [hsum]; exact hrl)
      obtain ⟨gm, hgm, egm⟩ := hmem
      refine ⟨selG m (grpR l), rfl, ?_, by omega, fun k hk => ?_, ?_⟩
      · cases e : gm.2 with
        | nil => exact absurd e (ok.ne gm hgm)
        | cons k r' => exact fun z => by have := (selG_mem (m := m) (k := k)).mpr ⟨gm, hgm, egm, by rw [e]; simp⟩; rw [z] at this; cases this
      · obtain ⟨g, hg, _, hkg⟩ := selG_mem.mp hk
        exact ((regs_mem (by omega)).mp (ok.key g hg k hkg).1).1
      · refine ⟨by show 2 ≤ 1000000; decide, M, hle, hq _ (.inr ⟨hno, m.toNat, ?_, fun k hk => ?_, ?_⟩)⟩
        · obtain ⟨k, hk, ek⟩ := hkey gm hgm
          exact ⟨k, hk, by rw [ek]; omega⟩
        · obtain ⟨g, hg, e1, _⟩ := ok.all k hk
          have := hmax g hg
          rw [e1] at this
          omega
        · have m0 : 0 ≤ m := by omega
          rw [show ((m.toNat : Nat) : Int) = m by omega]
          congr 3
          refine lstK_ext fun k => ?_
          rw [selG_mem, List.mem_filter, decide_eq_true_eq]
          constructor
          · rintro ⟨g, hg, e1, hk⟩
            obtain ⟨h1, h2⟩ := ok.key g hg k hk
            exact ⟨h1, by rw [h2]; omega⟩
          · rintro ⟨h1, h2⟩
            obtain ⟨g, hg, e1, hk⟩ := ok.all k h1
            exact ⟨g, hg, by rw [e1]; omega, hk⟩
end Px
set_option Elab.async false
set_option linter.all false
set_option maxRecDepth 100000
namespace Px
open PySem PySem.Spec PyProof.Rows L2
theorem gt_st_in : ∀ {ρ : Rho} {i : Nat} {y : Sv}, i < ρ.length → gt (st ρ i y) i = some y
  | [], _, _, h => absurd h (Nat.not_lt_zero _)
  | _ :: r, 0, _, _ => rfl
  | x :: r, n + 1, _, h => gt_st_in (ρ := r) (Nat.lt_of_succ_lt_succ h)
theorem putN_ev {w : PWi} {P : PEnds} {ρ : Rho} {M : Mm} {i j : Nat} {a : Addr} {kvs : List (D × D)} {p : Int × Int} (hi : gt ρ i = some (.val (.raw (.ref a)))) (hj : gt ρ j = some (.val (cpD p))) (hM : M a = some (.dct kvs)) (hl : kvs.length < 1000000)
    (k : P.nx ρ (updM M a (.dct (putD kvs (cpD p) (.bl true) (nkI [p.1, p.2]))))) : dPutN (dC (.bl true)) (dVar i) (dVar j) w P ρ M := by
  have e1 : Ev (dVar i) w ρ M (.raw (.ref a)) := ev_var hi
  have e2 : Ev (dVar j) w ρ M (cpD p) := ev_var hj
  unfold dPutN dC
  dsimp only
  refine e1 _ ?_
  refine e2 _ ?_
  exact dct_at hM (key_pair ⟨hl, k⟩)
theorem put_loop {w : PWi} {P : PEnds} {i j : Nat} {a : Addr} {M0 : Mm} (hij : i ≠ j) (h0 : M0 a = none) : ∀ (ps : List (Int × Int)) (ρ : Rho) (M : Mm) (kvs : List (D × D)) (T : List (Int × Int)), gt ρ i = some (.val (.raw (.ref a))) → j < ρ.length → M a = some (.dct kvs) → PrsOk kvs T → MLe M0 M →
    T.length + ps.length < 1000000 → (∀ ρ' M' kvs', (ρ' = ρ ∨ ∃ d, ρ' = st ρ j (.val d)) → M' a = some (.dct kvs') → PrsOk kvs' (T ++ ps) → MLe M0 M' → P.nx ρ' M') → forR (gNm j) (dPutN (dC (.bl true)) (dVar i) (dVar j)) w (ps.map cpD) P ρ M
  | [], ρ, M, kvs, T, hi, hj, hM, hk, hl, hn, fin => fin ρ M kvs (.inl rfl) hM (by rw [List.append_nil]; exact hk) hl
  | p :: ps, ρ, M, kvs, T, hi, hj, hM, hk, hl, hn, fin => by
    rw [List.length_cons] at hn
    show dPutN (dC (.bl true)) (dVar i) (dVar j) w _ (st ρ j (.val (cpD p))) M
    have hi' : gt (st ρ j (.val (cpD p))) i = some (.val (.raw (.ref a))) := by rw [gt_st_ne hij]; exact hi
    refine putN_ev hi' (gt_st_in hj) hM (by have := hk.len; omega) ?_
    refine put_loop hij h0 ps (st ρ j (.val (cpD p))) _ _ (T ++ [p]) hi' (by rw [st_len]; exact hj) updM_same (hk.put p) (fun b m e => ?_) (by rw [List.length_append, List.length_singleton]; omega) fun ρ' M' kvs' hρ hM' hk' hl' => ?_
    · have hb : b ≠ a := fun z => by rw [z, h0] at e; cases e
      unfold updM
      rw [if_neg hb]
      exact hl b m e
    · refine fin ρ' M' kvs' (.inr ?_) hM' (by rw [List.append_assoc] at hk'; exact hk') hl'
      rcases hρ with rfl | ⟨d, rfl⟩
      · exact ⟨_, rfl⟩
      · exact ⟨d, st_st _ _ _ _⟩
def TK (l : List D) (ks : List Int) : List (Int × Int) := ks.flatMap fun k => takenP l (tI k) (bI k) (pathK l k)
theorem TK_len {l : List D} (h : RowsOk l) : ∀ ks : List Int, (TK l ks).length ≤ 21 * ks.length
  | [] => Nat.le_refl _
  | k :: ks => by
    unfold TK
    rw [List.flatMap_cons, List.length_append, List.length_cons]
    have h1 := TK_len h ks
    unfold TK at h1
    obtain ⟨a, he⟩ := path_end h (tI k) (bI k)
    have h2 := taken_len l (tI k) (bI k) (pathK l k)
    have h3 : (pathK l k).length ≤ 21 := he.len
    omega
def bd_reg (C : Cl) : PTS := (dSeq (dAsg (dCall (sp_speed_in C) [] (dCons (dVar 4) dNil)) (gTp 2 (gsCons (gNm 5) (gsCons (gNm 6) gsNil))))
    (dFor (iA (dCall (sp_taken_by C) [] (dCons (dFld C.Program "p_rows" (dVar 0)) (dCons (dVar 2) (dCons (dVar 5) (dCons (dVar 6) dNil)))))) (gNm 7) (dPutN (dC (.bl true)) (dVar 1) (dVar 7))))
theorem reg_loop (C : Cl) {w : PWi} {P : PEnds} {a : Addr} {M0 : Mm} {l : List D} {p : List Int} (hr : RowsOk l) (h0 : M0 a = none) : ∀ (ks : List Int) (M : Mm) (kvs : List (D × D)) (T : List (Int × Int)) (x3 x4 x5 x6 x7 : Option Sv), (∀ k ∈ ks, 0 ≤ k ∧ pathK l k = p) → M a = some (.dct kvs) → PrsOk kvs T → MLe M0 M →
    T.length + 21 * ks.length < 1000000 → (∀ M' kvs' x4 x5 x6 x7, M' a = some (.dct kvs') → PrsOk kvs' (T ++ TK l ks) → MLe M0 M' → P.nx [some (.val (prgD C l)), some (.val (.raw (.ref a))), some (.val (tupI p)), x3, x4, x5, x6, x7, none, none, none, none] M') →
    forR (gNm 4) (bd_reg C) w (ks.map .int) P [some (.val (prgD C l)), some (.val (.raw (.ref a))), some (.val (tupI p)), x3, x4, x5, x6, x7, none, none, none, none] M
  | [], M, kvs, T, x3, x4, x5, x6, x7, hk0, hM, hk, hl, hn, fin => fin M kvs x4 x5 x6 x7 hM (by unfold TK; rw [List.flatMap_nil, List.append_nil]; exact hk) hl
  | k :: ks, M, kvs, T, x3, x4, x5, x6, x7, hk0, hM, hk, hl, hn, fin => by
    obtain ⟨k0, kp⟩ := hk0 k List.mem_cons_self
    obtain ⟨b1, b2⟩ := bI_rg k
    have t0 : 0 ≤ tI k := (tI_rg k0 (show k ≤ 2 * k by omega)).1
    obtain ⟨e, he⟩ := path_end hr (tI k) (bI k)
    have htk := taken_len l (tI k) (bI k) (pathK l k)
    have hpl : (pathK l k).length ≤ 21 := he.len
    rw [List.length_cons] at hn
    refine ⟨k0, rfl, ?_⟩
    refine ⟨rfl, _, rfl, l, tI k, bI k, rfl, by rw [← kp]; rfl, rfl, rfl, hr, ⟨t0, by omega, Int.le_trans b2 (by decide)⟩, ?_⟩
    show forR (gNm 7) (dPutN (dC (.bl true)) (dVar 1) (dVar 7)) w ((takenP l (tI k) (bI k) (pathK l k)).map cpD) _ _ M
    refine put_loop (by decide) h0 (takenP l (tI k) (bI k) (pathK l k)) _ M kvs T rfl (by simp [st_len]) hM hk hl (by omega) fun ρ' M' kvs' hρ hM' hk' hl' => ?_
    obtain ⟨y7, rfl⟩ : ∃ y7, ρ' = [some (.val (prgD C l)), some (.val (.raw (.ref a))), some (.val (tupI p)), x3, some (.val (.int k)), some (.val (.int (tI k))), some (.val (.int (bI k))), y7, none, none, none, none] := by
      rcases hρ with rfl | ⟨d, rfl⟩
      · exact ⟨x7, rfl⟩
      · exact ⟨_, rfl⟩
    refine reg_loop C hr h0 ks M' kvs' _ x3 _ _ _ _ (fun k' h' => hk0 k' (List.mem_cons_of_mem _ h')) hM' hk' hl' (by rw [List.length_append]; omega) fun M2 kvs2 x4 x5 x6 x7 q1 q2 q3 => ?_
    refine fin M2 kvs2 x4 x5 x6 x7 q1 ?_ q3
    rw [List.append_assoc] at q2
    exact q2
def RG (G : Grp) : List Int := G.flatMap fun g => g.2
theorem RG_len : ∀ G : Grp, (RG G).length = (G.map fun g => g.2.length).sum
  | [] => rfl
  | g :: G => by unfold RG; rw [List.flatMap_cons, List.length_append, List.map_cons, List.sum_cons, ← RG_len G]; rfl
theorem TK_app (l : List D) (a b : List Int) : TK l (a ++ b) = TK l a ++ TK l b := by unfold TK; rw [List.flatMap_append]
theorem grp_loop (C : Cl) {w : PWi} {P : PEnds} {a : Addr} {M0 : Mm} {l : List D} (hr : RowsOk l) (h0 : M0 a = none) : ∀ (G : Grp) (M : Mm) (kvs : List (D × D)) (T : List (Int × Int)) (x2 x3 x4 x5 x6 x7 : Option Sv), (∀ g ∈ G, ∀ k ∈ g.2, 0 ≤ k ∧ pathK l k = g.1) → M a = some (.dct kvs) → PrsOk kvs T → MLe M0 M →
    T.length + 21 * (RG G).length < 1000000 → (∀ M' kvs' x2 x3 x4 x5 x6 x7, M' a = some (.dct kvs') → PrsOk kvs' (T ++ TK l (RG G)) → MLe M0 M' → P.nx [some (.val (prgD C l)), some (.val (.raw (.ref a))), x2, x3, x4, x5, x6, x7, none, none, none, none] M') →
    forR (gTp 2 (gsCons (gNm 2) (gsCons (gNm 3) gsNil))) (dFor (iA (dVar 3)) (gNm 4) (bd_reg C)) w ((grpD G).map fun p => .tup [p.1, p.2]) P [some (.val (prgD C l)), some (.val (.raw (.ref a))), x2, x3, x4, x5, x6, x7, none, none, none, none] M
  | [], M, kvs, T, x2, x3, x4, x5, x6, x7, hk0, hM, hk, hl, hn, fin => fin M kvs x2 x3 x4 x5 x6 x7 hM (by show PrsOk kvs (T ++ []); rw [List.append_nil]; exact hk) hl
  | g :: G, M, kvs, T, x2, x3, x4, x5, x6, x7, hk0, hM, hk, hl, hn, fin => by
    have eR : RG (g :: G) = g.2 ++ RG G := by unfold RG; rw [List.flatMap_cons]
    rw [eR] at hn fin
    rw [List.length_append] at hn
    refine ⟨rfl, ?_⟩
    show forR (gNm 4) (bd_reg C) w (g.2.map .int) _ [some (.val (prgD C l)), some (.val (.raw (.ref a))), some (.val (tupI g.1)), some (.val (.lst (g.2.map .int))), x4, x5, x6, x7, none, none, none, none] M
    refine reg_loop C hr h0 g.2 M kvs T _ x4 x5 x6 x7 (fun k hk => hk0 g List.mem_cons_self k hk) hM hk hl (by omega) fun M' kvs' y4 y5 y6 y7 hM' hk' hl' => ?_
    have htl := TK_len hr g.2
    refine grp_loop C hr h0 G M' kvs' _ _ _ y4 y5 y6 y7 (fun g' h' => hk0 g' (List.mem_cons_of_mem _ h')) hM' hk' hl' (by rw [List.length_append]; omega) fun M2 kvs2 z2 z3 z4 z5 z6 z7 q1 q2 q3 => ?_
    refine fin M2 kvs2 z2 z3 z4 z5 z6 z7 q1 ?_ q3
    rw [List.append_assoc, ← TK_app] at q2
    exact q2
def gsN (d : D) : Nat := match d with | .tup [_, _, _, .tup gl] => gl.length | _ => 0
def untF (T : List (Int × Int)) : List D → Int → List (Int × Int)
  | [], _ => []
  | d :: r, i => (if sortS d = "look" then ((ixs (gsN d)).filter fun c => !decide ((i, c) ∈ T)).map (fun c => (i, c)) else []) ++ untF T r (i + 1)
theorem untF_ext {T T' : List (Int × Int)} (h : ∀ p, p ∈ T ↔ p ∈ T') : ∀ (l : List D) (i : Int), untF T l i = untF T' l i
  | [], _ => rfl
  | d :: r, i => by
    unfold untF
    rw [untF_ext h r (i + 1)]
    congr 3
    refine List.filter_congr fun c _ => ?_
    rw [decide_eq_decide.mpr (h (i, c))]
theorem untF_snoc (T : List (Int × Int)) (d : D) : ∀ (l : List D) (i : Int), untF T (l ++ [d]) i = untF T l i ++ (if sortS d = "look" then ((ixs (gsN d)).filter fun c => !decide ((i + l.length, c) ∈ T)).map (fun c => (i + l.length, c)) else [])
  | [], i => by
    show untF T [d] i = [] ++ _
    unfold untF
    show _ ++ [] = _
    rw [List.append_nil, List.nil_append, List.length_nil, show i + ((0 : Nat) : Int) = i by omega]
  | x :: l, i => by
    show untF T (x :: (l ++ [d])) i = _
    unfold untF
    rw [untF_snoc T d l (i + 1), List.append_assoc, List.length_cons]
    rw [show i + 1 + (l.length : Int) = i + ((l.length + 1 : Nat) : Int) by omega]
def untL (l : List D) : List (Int × Int) := untF (TK l (regs l)) l 0
theorem gsN_le {many : Int} {d : D} (h : RowK many d) : gsN d ≤ 25 := by
  cases h with
  | tell s h => exact Nat.zero_le _
  | look h es gs h0 ha he hl hg hn => show (gs.map D.int).length ≤ 25; rw [List.length_map]; omega
theorem untF_len {T : List (Int × Int)} {many : Int} : ∀ (l : List D) (i : Int), (∀ d ∈ l, RowK many d) → (untF T l i).length ≤ 25 * l.length
  | [], _, _ => Nat.le_refl _
  | d :: r, i, h => by
    unfold untF
    rw [List.length_append, List.length_cons]
    have h1 := untF_len (T := T) r (i + 1) fun x hx => h x (List.mem_cons_of_mem _ hx)
    have h2 := gsN_le (h d List.mem_cons_self)
    have h3 : (if sortS d = "look" then ((ixs (gsN d)).filter fun c => !decide ((i, c) ∈ T)).map (fun c => (i, c)) else []).length ≤ gsN d := by
      split
      · rw [List.length_map]; exact Nat.le_trans (List.length_filter_le _ _) (by rw [ixs_len]; exact Nat.le_refl _)
      · exact Nat.zero_le _
    omega
def sp_untaken (C : Cl) : PSpL := fun ds M q _ => ar1 ds fun s => ∃ l, s = prgD C l ∧ RowsOk l ∧ wholeL l ≤ 5040 ∧ q ((untL l).map cpD) M
def rd_untaken (C : Cl) : PTS := (dSeq (dSet 1 dNewN)
    (dSeq (dFor (iIF (dOp fIx (dCall (sp_regions_by_path C) [] (dCons (dVar 0) dNil)) (dC (.int 1)))) (gTp 2 (gsCons (gNm 2) (gsCons (gNm 3) gsNil))) (dFor (iA (dVar 3)) (gNm 4) (dSeq (dAsg (dCall (sp_speed_in C) [] (dCons (dVar 4) dNil)) (gTp 2 (gsCons (gNm 5) (gsCons (gNm 6) gsNil))))
    (dFor (iA (dCall (sp_taken_by C) [] (dCons (dFld C.Program "p_rows" (dVar 0)) (dCons (dVar 2) (dCons (dVar 5) (dCons (dVar 6) dNil)))))) (gNm 7) (dPutN (dC (.bl true)) (dVar 1) (dVar 7))))))
    (dSeq (dSetO 8 (dLst dNil))
    (dSeq (dFor (iEA (dFld C.Program "p_rows" (dVar 0))) (gTp 2 (gsCons (gNm 9) (gsCons (gNm 10) gsNil))) (dIfS (dTst (dOp fEq (dOp fIx (dVar 10) (dC (.int 0))) (dC (.str "look")))) (dSetO 8 (dG2 fCatL (dOwn 8) (dL (dComp [11] (iR1 (dB1 fLen (dOp fIx (dVar 10) (dC (.int 3))))) (gNm 11) (dTst (dInN true (dTup (dCons (dVar 9) (dCons (dVar 11) dNil))) (dVar 1))) (dTup (dCons (dVar 9) (dCons (dVar 11) dNil))))))) dNext))
    (dRetOwn 8)))))
theorem sh_untaken (C : Cl) : ShowsL (sp_untaken C) 12 (rd_untaken C) := by
  intro ds M q e h
  obtain ⟨s, rfl, l, rfl, hr, hW, hq⟩ := ar1_of h
  clear h
  have wp : 0 < wholeL l := (hvL_wd hr).lcm.1
  have ok := grpR_ok l
  have hsum : (RG (grpR l)).length = (regs l).length := by rw [RG_len]; exact sum_grpL _ _
  have hrl : (regs l).length ≤ 10081 := by unfold regs; rw [ixs_len]; omega
  intro a ha
  refine ⟨l, rfl, hr, hW, fun c hc => ⟨_, at1, c, _, rfl, updM_same, ?_⟩⟩
  have hca : c ≠ a := fun z => by rw [z, updM_same] at hc; cases hc
  have hcM : M c = none := by
    unfold updM at hc
    rwa [if_neg hca] at hc
  refine grp_loop C hr ha (grpR l) _ [] [] none none none none none none (fun g hg k hk => ?_) (by unfold updM; rw [if_neg (Ne.symm hca), if_pos rfl]) PrsOk.nil (fun b m e => ?_) (by rw [List.length_nil, hsum]; omega) fun M' kvs x2 x3 x4 x5 x6 x7 hM' hk' hl' => ?_
  · obtain ⟨h1, h2⟩ := ok.key g hg k hk
    exact ⟨((regs_mem (by omega)).mp h1).1, h2⟩
  · have hb : b ≠ a := fun z => by rw [z, ha] at e; cases e
    have hb2 : b ≠ c := fun z => by rw [z, hcM] at e; cases e
    unfold updM
    rw [if_neg hb2, if_neg hb]
    exact e
  rw [List.nil_append] at hk'
  have hT : ∀ p, p ∈ TK l (RG (grpR l)) ↔ p ∈ TK l (regs l) := fun p => by
    unfold TK
    rw [List.mem_flatMap, List.mem_flatMap]
    constructor
    · rintro ⟨k, hk, h⟩
      obtain ⟨g, hg, hkg⟩ := List.mem_flatMap.mp hk
      exact ⟨k, (ok.key g hg k hkg).1, h⟩
    · rintro ⟨k, hk, h⟩
      obtain ⟨g, hg, _, hkg⟩ := ok.all k hk
      exact ⟨k, List.mem_flatMap.mpr ⟨g, hg, hkg⟩, h⟩
  have eu : untL l = untF (TK l (RG (grpR l))) l 0 := (untF_ext hT l 0).symm
  rw [eu] at hq
  generalize TK l (RG (grpR l)) = T at hk' hq
  refine ⟨by decide, ?_⟩
  refine ⟨rfl, _, rfl, ?_⟩
  have hul : ∀ i, (untF T (l.take i) 0).length ≤ 500 := fun i => by
    have h1 := untF_len (T := T) (many := l.length) (l.take i) 0 fun d hd => rowK (hr.row d (List.mem_of_mem_take hd))
    have h2 := hr.len
    rw [List.length_take] at h1
    omega
  refine forR_ix (fun i ρ M2 => M2 = M' ∧ ∃ x9 x10 : Option Sv, ρ = [some (.val (prgD C l)), some (.val (.raw (.ref a))), x2, x3, x4, x5, x6, x7, some (.own ((untF T (l.take i) 0).map cpD)), x9, x10, none]) _ 0 ?_ ?_ _ _ ⟨rfl, none, none, rfl⟩
  · rintro i d hd F hF ρ M2 ⟨rfl, x9, x10, rfl⟩
    rw [enumD_get] at hd
    obtain ⟨d0, hd0, rfl⟩ := Option.map_eq_some_iff.mp hd
    obtain ⟨hi, ed⟩ := List.getElem?_eq_some_iff.mp hd0
    have hrk := rowK (hr.row d0 (List.mem_of_getElem? hd0))
    have hst := untF_snoc T d0 (l.take i) 0
    rw [show l.take i ++ [d0] = l.take (0 + i + 1) by rw [Nat.zero_add, List.take_add_one, hd0]; rfl, List.length_take, Nat.min_eq_left (Nat.le_of_lt hi), Int.zero_add] at hst
    have hF2 : ∀ ρ, (∃ x9 x10 : Option Sv, ρ = [some (.val (prgD C l)), some (.val (.raw (.ref a))), x2, x3, x4, x5, x6, x7, some (.own ((untF T (l.take i) 0 ++ (if sortS d0 = "look" then ((ixs (gsN d0)).filter fun c => !decide (((i : Int), c) ∈ T)).map (fun c => ((i : Int), c)) else [])).map cpD)), x9, x10, none]) → F ρ M2 := fun ρ ⟨x9, x10, e⟩ => hF ρ M2 ⟨rfl, x9, x10, by rw [hst]; exact e⟩
    have hu := hul i
    rw [Nat.zero_add] at *
    generalize untF T (l.take i) 0 = U at hF2 hu
    refine ⟨rfl, ?_⟩
    have e5 : ∀ (w : PWi), EvT (dTst (dOp fEq (dOp fIx (dVar 10) (dC (.int 0))) (dC (.str "look")))) w [some (.val (prgD C l)), some (.val (.raw (.ref a))), x2, x3, x4, x5, x6, x7, some (.own (U.map cpD)), some (.val (.int i)), some (.val d0), none] M2 (decide (sortS d0 = "look")) := fun w =>
      evt (ev_is hrk (by decide +kernel) (ev_var rfl))
    refine if_ev (e5 _) (fun cc => ?_) (fun cc => ?_)
    · rw [if_pos (of_decide_eq_true cc)] at hF2
      have hg := gsN_le hrk
      have e3 : ∃ gl, atI (match d0 with | .tup l => l | _ => []) 3 = some (.tup gl) ∧ gl.length = gsN d0 ∧ ∃ l0, d0 = .tup l0 := by
        cases hrk with
        | tell s h => exact absurd (show ("tell" : Str) = "look" from of_decide_eq_true cc) (by decide +kernel)
        | look h es gs q0 qa qe ql qg qn => exact ⟨_, at3, rfl, _, rfl⟩
      obtain ⟨gl, e3, e4, l0, rfl⟩ := e3
      have e3 : atI l0 3 = some (.tup gl) := e3
      have evc : ∀ w, Ev (dL (dComp [11] (iR1 (dB1 fLen (dOp fIx (dVar 10) (dC (.int 3))))) (gNm 11) (dTst (dInN true (dTup (dCons (dVar 9) (dCons (dVar 11) dNil))) (dVar 1))) (dTup (dCons (dVar 9) (dCons (dVar 11) dNil))))) w [some (.val (prgD C l)), some (.val (.raw (.ref a))), x2, x3, x4, x5, x6, x7, some (.own (U.map cpD)), some (.val (.int i)), some (.val (.tup l0)), none] M2
          (.lst (((ixs (gsN (.tup l0))).filter fun c => !decide (((i : Int), c) ∈ T)).map fun c => cpD ((i : Int), c))) := fun w q hq => by
        refine ⟨rfl, ?_⟩
        have e6 : Ev (dOp fIx (dVar 10) (dC (.int 3))) w [some (.val (prgD C l)), some (.val (.raw (.ref a))), x2, x3, x4, x5, x6, x7, some (.own (U.map cpD)), some (.val (.int i)), some (.val (.tup l0)), none] M2 (.tup gl) := ixT_ev (ev_var rfl) ev_c e3
        have e7 := ev_b1 (g := fLen) (z := .int gl.length) e6 fun k hk => hk
        refine e7 _ ?_
        refine ⟨by omega, by omega, ?_⟩
        rw [show ((gl.length : Nat) : Int).toNat = gsN (.tup l0) by rw [← e4]; rfl, rngD0]
        refine compR_sel (c := D.int) (f := fun c => cpD ((i : Int), c)) (p := fun c => !decide (((i : Int), c) ∈ T)) _ (fun c hc κ kf hκ => ?_) (by rw [ixs_len]; omega) hq
        refine ⟨by show 2 ≤ 1000000; decide, ?_⟩
        refine (ev_var (w := w0) (i := 1) (d := .raw (.ref a)) rfl) _ ?_
        refine dct_at hM' ?_
        refine key_pair (p := ((i : Int), c)) ?_
        show (if (!hasK kvs (nkI [(i : Int), c])) = true then _ else _)
        rw [hk'.has ((i : Int), c)]
        cases cx : decide (((i : Int), c) ∈ T) with
        | true => rw [cx] at hκ; exact hκ
        | false => rw [cx] at hκ; exact ⟨by show 2 ≤ 1000000; decide, hκ⟩
      refine seto_ev (ds := U.map cpD ++ ((ixs (gsN (.tup l0))).filter fun c => !decide (((i : Int), c) ∈ T)).map fun c => cpD ((i : Int), c)) (fun q hq => ev_own rfl _ (evc _ _ ⟨?_, hq⟩)) ?_
      · rw [List.length_map, List.length_map]
        have := List.length_filter_le (fun c => !decide (((i : Int), c) ∈ T)) (ixs (gsN (.tup l0)))
        rw [ixs_len] at this
        omega
      · exact hF2 _ ⟨_, _, by rw [List.map_append, List.map_map]; rfl⟩
    · rw [if_neg (of_decide_eq_false cc), List.append_nil] at hF2
      exact hF2 _ ⟨_, _, rfl⟩
  · rintro ρ M2 ⟨rfl, x9, x10, rfl⟩
    rw [enumD_len, Nat.zero_add, List.take_length]
    exact ⟨M, hl', hq⟩
end Px
set_option Elab.async false
set_option linter.all false
set_option maxRecDepth 100000
namespace Px
open PySem PySem.Spec PyProof.Rows L2
def sp__law_middles (C : Cl) : PSp := fun ds M q _ => ar2 ds fun d x => asI x fun h => ∃ es : List Int, d = .lst (es.map .int) ∧ es.length ≤ 100 ∧ (∀ n ∈ es, 0 ≤ n ∧ n ≤ 1000000) ∧ ∀ ms : List Int, ms.length = 2 * es.length + 1 → q (.lst (ms.map .int)) M
inductive LsAt (M : Mm) : List Addr → List (List D) → Prop where
  | nil : LsAt M [] []
  | cons {c as r rs} : M c = some (.lst r) → LsAt M as rs → LsAt M (c :: as) (r :: rs)
theorem LsAt.mono {M M' : Mm} : ∀ {as : List Addr} {rs : List (List D)}, (∀ c ∈ as, ∀ r, M c = some (.lst r) → M' c = some (.lst r)) → LsAt M as rs → LsAt M' as rs
  | _, _, _, .nil => .nil
  | _, _, h, .cons h1 h2 => .cons (h _ List.mem_cons_self _ h1) (LsAt.mono (fun c hc => h c (List.mem_cons_of_mem _ hc)) h2)
theorem LsAt.len {M : Mm} : ∀ {as : List Addr} {rs : List (List D)}, LsAt M as rs → as.length = rs.length
  | _, _, .nil => rfl
  | _, _, .cons _ h2 => by rw [List.length_cons, List.length_cons, h2.len]
theorem LsAt.has {M : Mm} : ∀ {as : List Addr} {rs : List (List D)}, LsAt M as rs → ∀ c ∈ as, ∃ r, M c = some (.lst r)
  | _, _, .cons h1 h2, c, hc => by
    rcases List.mem_cons.mp hc with rfl | hc
    · exact ⟨_, h1⟩
    · exact h2.has c hc
theorem LsAt.at_ {M : Mm} : ∀ {as : List Addr} {rs : List (List D)}, LsAt M as rs → ∀ (i : Nat) (r : List D), rs[i]? = some r → ∃ c, as[i]? = some c ∧ M c = some (.lst r)
  | _, _, .cons h1 h2, 0, r, e => by
    have e := Option.some.inj (show some _ = some r from e)
    subst e
    exact ⟨_, rfl, h1⟩
  | _, _, .cons h1 h2, i + 1, r, e => h2.at_ i r (by simpa using e)
section
variable {w : PWi} {P : PEnds} {ρ : Rho} {M : Mm} {pa pb pv : PTE} {c : Addr} {l : List D} {n : Int} {d v : D}
end
theorem updM_neL {M : Mm} {c b : Addr} {m : Mo} (h : b ≠ c) : updM M c m b = M b := by unfold updM; rw [if_neg h]
end Px
set_option Elab.async false
set_option linter.all false
set_option maxRecDepth 100000
namespace Px
open PySem PySem.Spec PyProof.Rows L2
section
variable {w : PWi} {ρ : Rho} {M : Mm} {pa pk : PTE} {l : List D} {k : Nat}
end
def o0 (C : Cl) : PTS := (dSeq (dSetA 6 (dCall sp_take [] (dCons (dVar 0) (dCons (dB1 fLen (dVar 1)) dNil))) (dCall sp_take [] (dCons (dVar 0) (dCons (dB1 fLen (dOwn 6)) dNil))))
    (dSetLs (dB1 fTup (dOwn 6)) (dVar 4) (dC (.int 3))))
def o1 (C : Cl) : PTS := (dSeq (dSet 7 (dL (dComp [10] (iR1 (dOp fAdd (dGetLs (dVar 4) (dC (.int 1))) (dC (.int 1)))) (gNm 10) (dTst (dOp (fInI true) (dVar 10) (dGetLs (dVar 4) (dC (.int 2))))) (dVar 10))))
    (dSeq (dSet 8 (dIf (dTst (dOp fLt (dB1 fLen (dGetLs (dVar 4) (dC (.int 2)))) (dC (.int 12)))) (dL (dG1 fSortI (dOp fAdd (dL (dG1 fListC (dGetLs (dVar 4) (dC (.int 2))))) (dSl (dVar 7) dNo (dPt (dC (.int 1))))))) (dL (dG1 fListC (dGetLs (dVar 4) (dC (.int 2)))))))
    (dSeq (dSetLs (dB1 fTup (dL (dComp [11] (iA (dCall (sp__law_middles C) [] (dCons (dVar 8) (dCons (dGetLs (dVar 4) (dC (.int 1))) dNil)))) (gNm 11) dYes (dOp fIx (dOwn 6) (dCall (sp__law_cell C) [] (dCons (dGetLs (dVar 4) (dC (.int 2))) (dCons (dVar 11) (dCons (dC (.int 2)) dNil)))))))) (dVar 4) (dC (.int 3)))
    (dSetLs (dB1 fTup (dVar 8)) (dVar 4) (dC (.int 2))))))
def o2 (C : Cl) : PTS := (dIfS (dTst (dOp fNe (dGetLs (dVar 4) (dC (.int 2))) (dTup dNil))) (dSeq (dSet 9 (dCall sp_take [] (dCons (dVar 0) (dCons (dB1 fLen (dGetLs (dVar 4) (dC (.int 2)))) dNil))))
    (dSeq (dSetLs (dOp fAdd (dSl (dGetLs (dVar 4) (dC (.int 2))) dNo (dPt (dVar 9))) (dSl (dGetLs (dVar 4) (dC (.int 2))) (dPt (dOp fAdd (dVar 9) (dC (.int 1)))) dNo)) (dVar 4) (dC (.int 2)))
    (dSetLs (dB1 fTup (dOp fAdd (dSl (dOwn 6) dNo (dPt (dOp fAdd (dOp fMul (dC (.int 2)) (dVar 9)) (dC (.int 1))))) (dSl (dOwn 6) (dPt (dOp fAdd (dOp fMul (dC (.int 2)) (dVar 9)) (dC (.int 3)))) dNo))) (dVar 4) (dC (.int 3))))) dNext)
section
variable {C : Cl} {w : PWi} {P : PEnds} {M : Mm} {a c : Addr} {l fs : List D} {i hf : Int} {es gs : List Int} {x5 x6 x7 x8 x9 : Option Sv}
structure LkK (many hf : Int) (es gs : List Int) : Prop where
  h0 : 1 ≤ hf ∧ hf ≤ 1000
  ha : asc es
  he : ∀ n ∈ es, 0 ≤ n ∧ n ≤ hf
  hl : es.length ≤ 12
  hg : ∀ n ∈ gs, 0 ≤ n ∧ n ≤ many - 1
  hn : gs.length = 2 * es.length + 1
end
end Px
set_option Elab.async false
set_option linter.all false
set_option maxRecDepth 100000
namespace Px
open PySem PySem.Spec PyProof.Rows L2
end Px
set_option Elab.async false
set_option linter.all false
set_option maxRecDepth 100000
namespace Px
open PySem PySem.Spec PyProof.Rows L2
theorem most_uniq {l : List D} {d d' : D} (h : MostIs l d) (h' : MostIs l d') : d = d' := by
  rcases h with ⟨⟨k, hk, hn⟩, rfl⟩ | ⟨hno, m, ⟨k, hk, hkm⟩, hmax, rfl⟩
  · rcases h' with ⟨_, rfl⟩ | ⟨hno, _⟩
    · rfl
    · rw [hno k hk] at hn; cases hn
  · rcases h' with ⟨⟨k', hk', hn⟩, rfl⟩ | ⟨_, m', ⟨k', hk', hkm'⟩, hmax', rfl⟩
    · rw [hno k' hk'] at hn; cases hn
    · have h1 := hmax' k hk
      have h2 := hmax k' hk'
      have : m = m' := by omega
      rw [this]
theorem Shw.intS {n : Nat} {i : Int} (h0 : 0 ≤ i) (h : i ≤ 1000) : Shw n 12 (.int i) := by
  have a : i.natAbs < 10 ^ 4 := by omega
  have a2 : i.natAbs < 2 ^ 10 := by omega
  refine ⟨by cases n <;> rfl, ?_, ?_, ?_⟩
  · show PyData.showable (.int i) = true
    simp only [PyData.showable]
    exact decide_eq_true (PySem.Flt.log2_lt_of (by decide) (Nat.lt_of_lt_of_le a2 (Nat.pow_le_pow_right (by decide) (by decide))))
  · have := int_text_length_le10 (a := i) (k := 4) (by decide) a
    show decide _ = true
    refine decide_eq_true ?_
    simp only [PyData.shown]
    rw [PySem.ofString_length]
    omega
  · have := PySem.Flt.log2_lt_of (by decide) a2
    show PyData.weight (.int i) ≤ 12
    simp only [PyData.weight]
    split <;> omega
theorem shw_pairs {ps : List (Int × Int)} (hl : ps.length ≤ 500) (h : ∀ p ∈ ps, 0 ≤ p.1 ∧ p.1 ≤ 1000 ∧ 0 ≤ p.2 ∧ p.2 ≤ 1000) : Shw 2 200000 (.lst (ps.map cpD)) := by
  have h1 : ∀ d ∈ ps.map cpD, Shw 1 26 d := fun d hd => by
    obtain ⟨p, hp, rfl⟩ := List.mem_map.mp hd
    obtain ⟨a, b, c, e⟩ := h p hp
    have := Shw.tup (n := 0) (ShwL.cons (Shw.intS (n := 0) a b) (ShwL.cons (Shw.intS (n := 0) c e) .nil))
    exact ⟨this.ok, this.sh, this.lv, Nat.le_trans this.wt (by decide)⟩
  have := Shw.lst (n := 1) (ShwL.all h1)
  refine ⟨this.ok, this.sh, this.lv, Nat.le_trans this.wt ?_⟩
  rw [List.length_map]; omega
theorem untF_rng {T : List (Int × Int)} {many : Int} : ∀ (l : List D) (i : Int), 0 ≤ i → (∀ d ∈ l, RowK many d) → ∀ p ∈ untF T l i, 0 ≤ p.1 ∧ p.1 < i + l.length ∧ 0 ≤ p.2 ∧ p.2 ≤ 1000
  | [], _, _, _, p, hp => by cases hp
  | d :: r, i, hi, h, p, hp => by
    unfold untF at hp
    rcases List.mem_append.mp hp with hp | hp
    · split at hp
      · obtain ⟨c, hc, rfl⟩ := List.mem_map.mp hp
        have := ixs_mem (List.mem_filter.mp hc).1
        have h2 := gsN_le (h d List.mem_cons_self)
        rw [List.length_cons]
        show 0 ≤ i ∧ i < i + _ ∧ 0 ≤ c ∧ c ≤ 1000
        omega
      · cases hp
    · have := untF_rng (T := T) r (i + 1) (by omega) (fun x hx => h x (List.mem_cons_of_mem _ hx)) p hp
      rw [List.length_cons]
      omega
theorem shw_unt {l : List D} (hr : RowsOk l) (T : List (Int × Int)) : Shw 2 200000 (.lst ((untF T l 0).map cpD)) := by
  have h20 := hr.len
  have hk : ∀ d ∈ l, RowK l.length d := fun d hd => rowK (hr.row d hd)
  refine shw_pairs (Nat.le_trans (untF_len l 0 hk) (by omega)) fun p hp => ?_
  have := untF_rng l 0 (by omega) hk p hp
  omega
def keysI (G : Grp) : List Key := G.map fun g => .inl (g.1.headD 0)
def One (G : Grp) : Prop := ∀ g ∈ G, ∃ n, g.1 = [n]
theorem keyIn_cons (d : Key) (r : List Key) (k : Key) : keyIn (d :: r) k = if d = k then some 0 else (keyIn r k).map (· + 1) := rfl
theorem addI_at : ∀ {G : Grp} {n k : Int} {j : Nat}, One G → keyIn (keysI G) (.inl n) = some j → ∃ r, G[j]? = some ([n], r) ∧ addG G [n] k = G.set j ([n], r ++ [k])
  | [], _, _, _, _, h => by cases h
  | (p, r) :: G, n, k, j, ho, h => by
    obtain ⟨m, hm⟩ := ho (p, r) List.mem_cons_self
    have hm : p = [m] := hm
    subst hm
    have h : keyIn (.inl m :: keysI G) (.inl n) = some j := h
    rw [keyIn_cons] at h
    by_cases c : m = n
    · subst c
      rw [if_pos rfl] at h
      cases h
      exact ⟨r, rfl, by unfold addG; rw [if_pos rfl]; rfl⟩
    · rw [if_neg (fun z => c (Sum.inl.inj z))] at h
      cases e : keyIn (keysI G) (.inl n) with
      | none => rw [e] at h; cases h
      | some j' =>
        rw [e] at h
        cases h
        obtain ⟨r', h1, h2⟩ := addI_at (k := k) (fun g hg => ho g (List.mem_cons_of_mem _ hg)) e
        exact ⟨r', by rw [List.getElem?_cons_succ]; exact h1, by unfold addG; rw [if_neg (fun z => c (List.cons.inj z).1), h2]; rfl⟩
theorem addI_no : ∀ {G : Grp} {n k : Int}, One G → keyIn (keysI G) (.inl n) = none → addG G [n] k = G ++ [([n], [k])]
  | [], _, _, _, _ => rfl
  | (p, r) :: G, n, k, ho, h => by
    obtain ⟨m, hm⟩ := ho (p, r) List.mem_cons_self
    have hm : p = [m] := hm
    subst hm
    have h : keyIn (.inl m :: keysI G) (.inl n) = none := h
    rw [keyIn_cons] at h
    by_cases c : m = n
    · rw [if_pos (by rw [c])] at h; cases h
    · rw [if_neg (fun z => c (Sum.inl.inj z))] at h
      have e : keyIn (keysI G) (.inl n) = none := by
        cases e : keyIn (keysI G) (.inl n) with
        | none => rfl
        | some j' => rw [e] at h; cases h
      unfold addG
      rw [if_neg (fun z => c (List.cons.inj z).1), addI_no (fun g hg => ho g (List.mem_cons_of_mem _ hg)) e]; rfl
def lenK (l : List D) (k : Int) : List Int := [((pathK l k).length : Int) - 1]
theorem one_grp (l : List D) (ks : List Int) : One (grpL (lenK l) ks) := fun g hg => by
  have ok := grpL_ok (lenK l) ks
  cases e : g.2 with
  | nil => exact absurd e (ok.ne g hg)
  | cons k r => exact ⟨_, ((ok.key g hg k (by rw [e]; simp)).2).symm⟩
theorem get_grpI : ∀ {G : Grp} {g : List Int × List Int} {n : Int}, (G.map (·.1)).Nodup → One G → g ∈ G → g.1 = [n] → getDK ((keysI G).zip ((G.map fun g => (g.2.map spD)).map D.lst)) (.inl n) = some (.lst (g.2.map spD))
  | [], _, _, _, _, h, _ => by cases h
  | a :: G, g, n, nd, ho, h, hn => by
    rw [List.map_cons, List.nodup_cons] at nd
    obtain ⟨m, hm⟩ := ho a List.mem_cons_self
    show getDK ((.inl (a.1.headD 0), D.lst (a.2.map spD)) :: (keysI G).zip ((G.map fun g => (g.2.map spD)).map D.lst)) (.inl n) = _
    have hh : a.1.headD 0 = m := by rw [hm]; rfl
    rcases List.mem_cons.mp h with rfl | h
    · have : m = n := by rw [hm] at hn; exact (List.cons.inj hn).1
      rw [getDK_pos (by show (Sum.inl (g.1.headD 0) : Key) = .inl n; rw [hh, this])]
    · have c : m ≠ n := fun z => nd.1 (by rw [hm, z, ← hn]; exact List.mem_map_of_mem h)
      rw [getDK_neg (by show ¬ (Sum.inl (a.1.headD 0) : Key) = .inl n; rw [hh]; exact fun z => c (Sum.inl.inj z))]
      exact get_grpI nd.2 (fun g hg => ho g (List.mem_cons_of_mem _ hg)) h hn
def chL : List D := ((List.range 19).map fun i : Nat => .tup [.str "look", .int (1 + (i : Int) % 6), .tup [], .tup [.int ((i : Int) + 1)]]) ++ [.tup [.str "tell", .str "end"]]
theorem chL_ok : RowsOk chL := ⟨by decide, by decide, by decide +kernel⟩
theorem chL_path (t b : Int) : pathP chL t b = [0, 1, 2, 3, 4, 5, 6, 7, 8, 9, 10, 11, 12, 13, 14, 15, 16, 17, 18, 19] := by rfl
theorem chL_whole : wholeL chL = 60 := by decide +kernel
theorem chL_pathK (k : Int) : pathK chL k = [0, 1, 2, 3, 4, 5, 6, 7, 8, 9, 10, 11, 12, 13, 14, 15, 16, 17, 18, 19] := chL_path _ _
theorem chL_regs : regs chL = ixs 121 := by unfold regs; rw [chL_whole]; rfl
theorem chL_most : MostIs chL (.tup [.int 19, .tup [.int 0, .int 1]]) := by
  refine .inr ⟨fun k _ => ?_, 20, ⟨0, ?_, ?_⟩, fun k _ => ?_, ?_⟩
  · unfold isNo; rw [chL_pathK]; rfl
  · rw [chL_regs]; decide +kernel
  · rw [chL_pathK]; rfl
  · rw [chL_pathK]; exact Nat.le_refl _
  · have e : (regs chL).filter (fun k => decide ((pathK chL k).length = 20)) = regs chL := List.filter_eq_self.mpr fun k _ => by rw [chL_pathK]; rfl
    rw [e, chL_regs, lstK_is (m := 0) (by decide +kernel) fun k hk => ?_]
    · rfl
    · have h1 := ixs_mem hk
      have h2 := bI_rg k
      have h3 := (tI_rg (k := k) (W := k) h1.1 (by omega)).1
      unfold ltP
      show (decide (bI k < 1) || (!decide (1 < bI k) && decide (tI k < 0))) = false
      rw [decide_eq_false (show ¬ bI k < 1 by omega), decide_eq_false (show ¬ tI k < 0 by omega)]
      simp
theorem untF_none {T : List (Int × Int)} : ∀ (l : List D) (i : Int), (∀ (j : Nat) d, l[j]? = some d → sortS d = "look" → ∀ c ∈ ixs (gsN d), (i + j, c) ∈ T) → untF T l i = []
  | [], _, _ => rfl
  | d :: r, i, h => by
    unfold untF
    rw [untF_none r (i + 1) fun j d' hd hs c hc => by have := h (j + 1) d' (by rw [List.getElem?_cons_succ]; exact hd) hs c hc; rw [show i + 1 + (j : Int) = i + ((j + 1 : Nat) : Int) by omega]; exact this, List.append_nil]
    by_cases cc : sortS d = "look"
    · rw [if_pos cc]
      have : (ixs (gsN d)).filter (fun c => !decide ((i, c) ∈ T)) = [] := List.filter_eq_nil_iff.mpr fun c hc => by
        have := h 0 d rfl cc c hc
        rw [show i + ((0 : Nat) : Int) = i by omega] at this
        rw [decide_eq_true this]; simp
      rw [this]; rfl
    · rw [if_neg cc]
theorem chL_t0 : takenP chL 0 1 [0, 1, 2, 3, 4, 5, 6, 7, 8, 9, 10, 11, 12, 13, 14, 15, 16, 17, 18, 19] = (List.range 19).map fun i : Nat => ((i : Int), (0 : Int)) := by decide +kernel
theorem chL_unt : untL chL = [] := by
  unfold untL
  refine untF_none chL 0 fun j d hd hs c hc => ?_
  have hj : j < chL.length := (List.getElem?_eq_some_iff.mp hd).1
  have hj : j < 20 := hj
  unfold TK
  refine List.mem_flatMap.mpr ⟨0, by rw [chL_regs]; decide +kernel, ?_⟩
  rw [chL_pathK, show tI 0 = 0 from rfl, show bI 0 = 1 from rfl, chL_t0]
  have h19 : j < 19 := by
    rcases Nat.lt_or_ge j 19 with z | z
    · exact z
    · have : j = 19 := by omega
      subst this
      have hd : some (D.tup [.str "tell", .str "end"]) = some d := hd
      cases hd
      exact absurd (show ("tell" : Str) = "look" from hs) (by decide +kernel)
  have hd2 : chL[j]? = some (.tup [.str "look", .int (1 + (j : Int) % 6), .tup [], .tup [.int ((j : Int) + 1)]]) := by
    unfold chL
    rw [List.getElem?_append_left (by rw [List.length_map, List.length_range]; exact h19), List.getElem?_map, List.getElem?_range h19]
    rfl
  rw [hd2] at hd
  cases hd
  have : c = 0 := by
    have := ixs_mem hc
    have h1 : gsN (.tup [.str "look", .int (1 + (j : Int) % 6), .tup [], .tup [.int ((j : Int) + 1)]]) = 1 := rfl
    rw [h1] at this
    omega
  rw [this, Int.zero_add]
  exact List.mem_map.mpr ⟨j, List.mem_range.mpr h19, rfl⟩
end Px
set_option Elab.async false
set_option linter.all false
set_option maxRecDepth 100000
namespace Px
open PySem PySem.Spec PyProof.Rows L2
def rd_l52_0 (C : Cl) : PTS := (dSet 4 (dCall (sp__law_rows C) [] (dCons (dVar 1) (dCons (dC (.int 120)) dNil))))
def rd_l52_1 (C : Cl) : PTS := (dAsg (dTup (dCons (dMake C.Program (sp_Program___init__ C) (dCons (dVar 4) dNil)) (dCons dNewDk (dCons dNewN (dCons (dC (.int 0)) dNil))))) (gTp 4 (gsCons (gNm 5) (gsCons (gNm 6) (gsCons (gNm 7) (gsCons (gNm 8) gsNil))))))
def rd_l52_2 (C : Cl) : PTS := (dBag0 6 (dFor (iA (dCall (sp__law_spots C) [] (dCons (dCall (sp__law_whole C) [] (dCons (dVar 4) dNil)) dNil))) (gNm 9) (dSeq (dSet 10 (dCall (sp__law_path C) [] (dCons (dVar 4) (dCons (dVar 9) dNil)))) (dSeq (dSet 8 (dOp fAdd (dVar 8) (dB1 fInt (dOp fIs (dCall (sp_word_of C) [] (dCons (dVar 4) (dCons (dVar 10) dNil))) (dC .non))))) (dSeq (dSdK 6 (dOp fSub (dB1 fLen (dVar 10)) (dC (.int 1))) (dVar 9)) (dFor (iA (dCall (sp__law_taken C) [] (dCons (dVar 4) (dCons (dVar 10) (dCons (dVar 9) dNil))))) (gNm 11) (dPutN (dC (.bl true)) (dVar 7) (dVar 11))))))))
def rd_l52_3 (C : Cl) : PTS := (dThD 6 (dSet 12 (dB1 fMax (dL (dKeysDk (dVar 6))))))
def rd_l52_4 (C : Cl) : PTS := (dSet 13 (dIf (dTst (dOp fGt (dVar 8) (dC (.int 0)))) (dC .non) (dTup (dCons (dVar 12) (dCons (dCall (sp__law_simplest C) [] (dCons (dGetDk (dVar 6) (dVar 12)) dNil)) dNil)))))
def rd_l52_5 (C : Cl) : PTS := (dIfS (dOr (dTst (dOp fNeS (dB1 fRepr (dCall (sp_most_looks C) [] (dCons (dVar 5) dNil))) (dB1 fRepr (dVar 13)))) (dTst (dOp fNe (dCallK (sp_most_looks C) [0] (dCons (dVar 5) dNil)) (dVar 13)))) (dRet (dC (.bl false))) dNext)
def rd_l52_6 (C : Cl) : PTS := (dSet 14 (dL (dLst dNil)))
def rd_l52_7 (C : Cl) : PTS := (dFor (iEA (dVar 4)) (gTp 2 (gsCons (gNm 15) (gsCons (gNm 16) gsNil))) (dSeq (dSet 17 (dIf (dTst (dOp fEq (dOp fIx (dVar 16) (dC (.int 0))) (dC (.str "look")))) (dL (dLRg1 (dB1 fLen (dOp fIx (dVar 16) (dC (.int 3)))))) (dL (dLst dNil)))) (dSet 14 (dOp fAdd (dVar 14) (dL (dComp [19] (iA (dVar 17)) (gNm 19) (dTst (dInN true (dTup (dCons (dVar 15) (dCons (dVar 19) dNil))) (dVar 7))) (dTup (dCons (dVar 15) (dCons (dVar 19) dNil)))))))))
def rd_l52_8 (C : Cl) : PTS := (dSetO 18 (dCallL (sp_untaken C) (dCons (dVar 5) dNil)))
def rd_l52_9 (C : Cl) : PTS := (dIfS (dTst (dOp fNeS (dB1 fRepr (dOwn 18)) (dB1 fRepr (dVar 14)))) (dRet (dC (.bl false))) dNext)
def rd_l52_10 (C : Cl) : PTS := (dApp 18 (dC .non))
def rd_l52_11 (C : Cl) : PTS := (dIfS (dTst (dOp fNe (dL (dCallLK (sp_untaken C) [0] (dCons (dVar 5) dNil))) (dVar 14))) (dRet (dC (.bl false))) dNext)
def rd_l52_b (C : Cl) : PTS := (dSeq (rd_l52_0 C) (dSeq (rd_l52_1 C) (dSeq (rd_l52_2 C) (dSeq (rd_l52_3 C) (dSeq (rd_l52_4 C) (dSeq (rd_l52_5 C) (dSeq (rd_l52_6 C) (dSeq (rd_l52_7 C) (dSeq (rd_l52_8 C) (dSeq (rd_l52_9 C) (dSeq (rd_l52_10 C) (rd_l52_11 C))))))))))))
def rd_l52_m (C : Cl) : PTS := (dSeq (dSet 2 (dMake C.Program (sp_Program___init__ C) (dCons (dOp fAdd (dB1 fTup (dL (dComp [15] (iR1 (dC (.int 19))) (gNm 15) dYes (dTup (dCons (dC (.str "look")) (dCons (dOp fAdd (dC (.int 1)) (dOp fMod (dVar 15) (dC (.int 6)))) (dCons (dTup dNil) (dCons (dTup (dCons (dOp fAdd (dVar 15) (dC (.int 1))) dNil)) dNil)))))))) (dTup (dCons (dTup (dCons (dC (.str "tell")) (dCons (dC (.str "end")) dNil))) dNil))) dNil))) (dSeq (dIfS (dOr (dTst (dOp fNe (dCall (sp_most_looks C) [] (dCons (dVar 2) dNil)) (dTup (dCons (dC (.int 19)) (dCons (dTup (dCons (dC (.int 0)) (dCons (dC (.int 1)) dNil))) dNil))))) (dOr (dTst (dOp fNe (dCallI C.Program (sp_Program___call__ C) (dVar 2) (dCons (dTup (dCons (dC (.int 0)) (dCons (dC (.int 1)) dNil))) dNil)) (dB1 fTup (dL (dLRg1 (dC (.int 20))))))) (dTst (dOp fNe (dL (dCallL (sp_untaken C) (dCons (dVar 2) dNil))) (dL (dLst dNil)))))) (dRet (dC (.bl false))) dNext) (dSeq (dFor (iR1 (dOp fAdd (dC (.int 1)) (dOp fMin2 (dB1 fLen (dVar 0)) (dC (.int 6))))) (gNm 3) (rd_l52_b C)) (dRet (dC (.bl true))))))
def rd_law (C : Cl) : PTS := (dSeq (dSet 1 (dCall sp_begin [] (dCons (dVar 0) dNil))) (rd_l52_m C))
theorem chL_pro : PrO chL := by
  refine ⟨chL_ok, fun d hd => ?_⟩
  unfold chL at hd
  rcases List.mem_append.mp hd with hd | hd
  · obtain ⟨i, hi, rfl⟩ := List.mem_map.mp hd
    have hi := List.mem_range.mp hi
    exact (look_row (hf := 1 + (i : Int) % 6) (many := 20) (es := []) (gs := [(i : Int) + 1]) (by omega) (by omega) List.Pairwise.nil (fun n h => by cases h) (by decide) (by decide) (fun n hn => by rw [List.mem_singleton.mp hn]; omega) rfl).2.1
  · rw [List.mem_singleton.mp hd]
    refine ⟨?_, by decide +kernel⟩
    simp only [Gd]
    refine ⟨by show 2 ≤ 30; decide, fun x hx => ?_⟩
    simp only [List.mem_cons, List.not_mem_nil, or_false] at hx
    rcases hx with rfl | rfl
    · simp only [Gd]; exact ⟨by decide +kernel, by decide +kernel, by decide +kernel⟩
    · simp only [Gd]; exact ⟨by decide +kernel, by decide +kernel, by decide +kernel⟩
theorem rows_gd52 {l : List D} (o : PrO l) : GdA (.tup l) := by
  refine ⟨30, 1000, 3, ?_, by decide⟩
  simp only [Gd]
  exact ⟨by have := o.rows.len; omega, fun x hx => (o.rw x hx).1⟩
section
variable {C : Cl} {w : PWi} {P : PEnds} {M : Mm} {a c c2 : Addr} {s0 s2 x3 x4 x5 x6 x7 x8 x9 x10 x11 x12 x13 x14 x15 x16 x17 x18 x19 : Option Sv} {l : List D}
abbrev ρ52 (s0 : Option Sv) (a : Addr) (s2 x3 x4 x5 x6 x7 x8 x9 x10 x11 x12 x13 x14 x15 x16 x17 x18 : Option Sv) : Rho := [s0, some (.val (.raw (.ref a))), s2, x3, x4, x5, x6, x7, x8, x9, x10, x11, x12, x13, x14, x15, x16, x17, x18, none]
theorem asg4 {ρ : Rho} {pa pb pc pd : PTE} {gd : PTG} (h : pa w ρ M fun x M1 => pb w ρ M1 fun y M2 => pc w ρ M2 fun z M3 => pd w ρ M3 fun u M4 => [x, y, z, u].length ≤ 1000000 ∧ gd (.tup [x, y, z, u]) ρ fun ρ' => P.nx ρ' M4) : dAsg (dTup (dCons pa (dCons pb (dCons pc (dCons pd dNil))))) gd w P ρ M := h
theorem forL52 {ρ : Rho} {pa : PTE} {gd : PTG} {p : PTS} {ds : List D} (h : Ev pa w ρ M (.lst ds)) (k : forR gd p w ds P ρ M) : dFor (iA pa) gd p w P ρ M := h _ k
theorem evg_rows52 {ρ : Rho} {pa pb : PTE} {n : Int} (ha : Ev pa w ρ M (.raw (.ref a))) (hb : Ev pb w ρ M (.int n)) (hm : M a = some .draw) (h1 : 1 ≤ n) (h2 : n ≤ 120) : EvG (dCall (sp__law_rows C) [] (dCons pa (dCons pb dNil))) w ρ M (fun z => ∃ l, z = .tup l ∧ PrO l ∧ wholeL l ≤ n) := fun q hq =>
  ha _ (hb _ ⟨hm, ⟨h1, Int.le_trans h2 (by decide)⟩, fun l hs h1 h2 h3 h4 h5 => hq _ ⟨l, rfl, ⟨h1, h2⟩, Int.le_trans (lcmL_le (hvL_wd h1).pos h3.sm.pos h5) h4⟩⟩)
theorem l52_0 (hm : M a = some .draw) (hN : ∀ l, PrO l → wholeL l ≤ 120 → P.nx (ρ52 s0 a s2 x3 (some (.val (.tup l))) x5 x6 x7 x8 x9 x10 x11 x12 x13 x14 x15 x16 x17 x18) M) : rd_l52_0 C w P (ρ52 s0 a s2 x3 x4 x5 x6 x7 x8 x9 x10 x11 x12 x13 x14 x15 x16 x17 x18) M := by
  refine set_evg (evg_rows52 (n := 120) (ev_var rfl) ev_c hm (by decide) (by decide)) ?_
  rintro _ ⟨l, rfl, o, h⟩
  exact hN l o h
theorem l52_1 (o : PrO l) (hN : ∀ c c2, c ≠ c2 → M c = none → M c2 = none → P.nx (ρ52 s0 a s2 x3 (some (.val (.tup l))) (some (.val (prgD C l))) (some (.val (.raw (.ref c)))) (some (.val (.raw (.ref c2)))) (some (.val (.int 0))) x9 x10 x11 x12 x13 x14 x15 x16 x17 x18) (updM (updM M c (.dik [])) c2 (.dct []))) :
    rd_l52_1 C w P (ρ52 s0 a s2 x3 (some (.val (.tup l))) x5 x6 x7 x8 x9 x10 x11 x12 x13 x14 x15 x16 x17 x18) M := by
  have e0 : Ev (dMake C.Program (sp_Program___init__ C) (dCons (dVar 4) dNil)) w (ρ52 s0 a s2 x3 (some (.val (.tup l))) x5 x6 x7 x8 x9 x10 x11 x12 x13 x14 x15 x16 x17 x18) M (prgD C l) := fun q hq => make_prg (ev_var rfl) o.rows (rows_gd52 o) hq
  refine asg4 (e0 _ ?_)
  intro c hc c2 hc2
  have hne : c ≠ c2 := fun z => by rw [z, updM_same] at hc2; cases hc2
  have hc2' : M c2 = none := by
    unfold updM at hc2
    rwa [if_neg (Ne.symm hne)] at hc2
  exact ⟨by show 4 ≤ 1000000; decide, rfl, hN c c2 hne hc hc2'⟩
def bd52 (C : Cl) : PTS := (dSeq (dSet 10 (dCall (sp__law_path C) [] (dCons (dVar 4) (dCons (dVar 9) dNil)))) (dSeq (dSet 8 (dOp fAdd (dVar 8) (dB1 fInt (dOp fIs (dCall (sp_word_of C) [] (dCons (dVar 4) (dCons (dVar 10) dNil))) (dC .non))))) (dSeq (dSdK 6 (dOp fSub (dB1 fLen (dVar 10)) (dC (.int 1))) (dVar 9)) (dFor (iA (dCall (sp__law_taken C) [] (dCons (dVar 4) (dCons (dVar 10) (dCons (dVar 9) dNil))))) (gNm 11) (dPutN (dC (.bl true)) (dVar 7) (dVar 11))))))
def cntN (l : List D) (ks : List Int) : Int := (ks.filter (isNo l)).length
theorem cntN_snoc (l : List D) (ks : List Int) (k : Int) : cntN l (ks ++ [k]) = cntN l ks + (if isNo l k = true then 1 else 0) := by
  unfold cntN
  rw [List.filter_append, List.length_append, List.filter_cons]
  cases isNo l k <;> simp
def lsS (G : Grp) : List (List D) := G.map fun g => g.2.map spD
theorem lsS_len (G : Grp) : (lsS G).length = G.length := by unfold lsS; rw [List.length_map]
theorem keysI_len (G : Grp) : (keysI G).length = G.length := by unfold keysI; rw [List.length_map]
structure Lp52 (M0 : Mm) (a c c2 : Addr) (l : List D) (ks : List Int) (ps : List Addr) (kvs : List (D × D)) (M : Mm) : Prop where
  ln : ps.length = (grpL (lenK l) ks).length
  mc : M c = some (dikB (keysI (grpL (lenK l) ks)) ps)
  m2 : M c2 = some (.dct kvs)
  pk : PrsOk kvs (TK l ks)
  ma : M a = some .draw
  le : MLe M0 M
theorem spot_loop {M0 : Mm} (o : PrO l) (hW : wholeL l ≤ 120) (h0 : M0 c = none) (h2 : M0 c2 = none) (hne : c ≠ c2) (hac : a ≠ c) (hac2 : a ≠ c2) : ∀ (rest done : List Int) (M : Mm) (ps : List Addr) (kvs : List (D × D)) (y9 y10 y11 : Option Sv), regs l = done ++ rest → Lp52 M0 a c c2 l done ps kvs M →
    (∀ M' ps' kvs' y9 y10 y11, Lp52 M0 a c c2 l (regs l) ps' kvs' M' → P.nx (ρ52 s0 a s2 x3 (some (.val (.tup l))) x5 (some (bagD c ps' (lsS (grpL (lenK l) (regs l))))) (some (.val (.raw (.ref c2)))) (some (.val (.int (cntN l (regs l))))) y9 y10 y11 x12 x13 x14 x15 x16 x17 x18) M') →
    forR (gNm 9) (bd52 C) w (rest.map spD) P (ρ52 s0 a s2 x3 (some (.val (.tup l))) x5 (some (bagD c ps (lsS (grpL (lenK l) done)))) (some (.val (.raw (.ref c2)))) (some (.val (.int (cntN l done)))) y9 y10 y11 x12 x13 x14 x15 x16 x17 x18) M
  | [], done, M, ps, kvs, y9, y10, y11, e, L, fin => by
    rw [List.append_nil] at e
    rw [e] at fin
    exact fin M ps kvs y9 y10 y11 L
  | k :: rest, done, M, ps, kvs, y9, y10, y11, e, L, fin => by
    have wp : 0 < wholeL l := (hvL_wd o.rows).lcm.1
    have hkm : k ∈ regs l := by rw [e]; simp
    have hk := (regs_mem (by omega)).mp hkm
    have hrl : (regs l).length ≤ 241 := by unfold regs; rw [ixs_len]; omega
    have hdl : done.length ≤ 240 := by
      have := congrArg List.length e
      rw [List.length_append, List.length_cons] at this
      omega
    have ht := tI_rg (k := k) (W := 120) hk.1 (by omega)
    have hb := bI_rg k
    obtain ⟨ee, he⟩ := path_end o.rows (tI k) (bI k)
    obtain ⟨e0, e1⟩ := he.rg ee (List.mem_of_getLast? he.la)
    have hpl : (pathK l k).length ≤ 21 := he.len
    have gok := grpL_ok (lenK l) done
    have one := one_grp l done
    have hGl := gok.len
    have hnr := word_nr o.rows (tI k) (bI k)
    show bd52 C w _ (ρ52 s0 a s2 x3 (some (.val (.tup l))) x5 (some (bagD c ps (lsS (grpL (lenK l) done)))) (some (.val (.raw (.ref c2)))) (some (.val (.int (cntN l done)))) (some (.val (spD k))) y10 y11 x12 x13 x14 x15 x16 x17 x18) M
    refine sqSet (d := tupI (pathK l k)) (ev_call (eva_cons (ev_var rfl) (eva_cons (ev_var rfl) eva_nil)) fun q e hq => ⟨l, tI k, bI k, rfl, rfl, o.rows, ⟨ht.1, Int.le_trans ht.2 (by decide), by omega, Int.le_trans hb.2 (by decide)⟩, hq⟩) ?_
    show (dSeq (dSet 8 _) _) w _ (ρ52 s0 a s2 x3 (some (.val (.tup l))) x5 (some (bagD c ps (lsS (grpL (lenK l) done)))) (some (.val (.raw (.ref c2)))) (some (.val (.int (cntN l done)))) (some (.val (spD k))) (some (.val (tupI (pathK l k)))) y11 x12 x13 x14 x15 x16 x17 x18) M
    refine sqSet (d := .int (cntN l done + (if isNo l k = true then 1 else 0))) (ev_op (ev_var rfl) (ev_b1 (ev_op (ev_call (v := wordP l (pathK l k)) (eva_cons (ev_var rfl) (eva_cons (ev_var rfl) eva_nil)) fun q e hq => ⟨l, pathK l k, rfl, rfl, o.rows, ⟨ee, he.la, e0, e1⟩, hq⟩) ev_c (o2_isN hnr)) (z := .int (if isNo l k = true then 1 else 0)) o1_intB) o2_add) ?_
    rw [← cntN_snoc]
    show (dSeq (dSdK 6 _ _) _) w _ (ρ52 s0 a s2 x3 (some (.val (.tup l))) x5 (some (bagD c ps (lsS (grpL (lenK l) done)))) (some (.val (.raw (.ref c2)))) (some (.val (.int (cntN l (done ++ [k]))))) (some (.val (spD k))) (some (.val (tupI (pathK l k)))) y11 x12 x13 x14 x15 x16 x17 x18) M
    have htl := taken_len l (tI k) (bI k) (pathK l k)
    have hTl := TK_len o.rows done
    have next : ∀ (M' : Mm) (ps' : List Addr), ps'.length = (grpL (lenK l) (done ++ [k])).length → M' c = some (dikB (keysI (grpL (lenK l) (done ++ [k]))) ps') → M' c2 = some (.dct kvs) → M' a = some .draw → MLe M0 M' →
        dFor (iA (dCall (sp__law_taken C) [] (dCons (dVar 4) (dCons (dVar 10) (dCons (dVar 9) dNil))))) (gNm 11) (dPutN (dC (.bl true)) (dVar 7) (dVar 11)) w { P with nx := forR (gNm 9) (bd52 C) w (rest.map spD) P, ct := forR (gNm 9) (bd52 C) w (rest.map spD) P, bk := P.nx }
          (ρ52 s0 a s2 x3 (some (.val (.tup l))) x5 (some (bagD c ps' (lsS (grpL (lenK l) (done ++ [k]))))) (some (.val (.raw (.ref c2)))) (some (.val (.int (cntN l (done ++ [k]))))) (some (.val (spD k))) (some (.val (tupI (pathK l k)))) y11 x12 x13 x14 x15 x16 x17 x18) M' := fun M' ps' q1 q2 q3 q4 q5 => by
      refine forL52 (ev_call (v := .lst ((takenP l (tI k) (bI k) (pathK l k)).map cpD)) (eva_cons (ev_var rfl) (eva_cons (ev_var rfl) (eva_cons (ev_var rfl) eva_nil))) fun q e hq => ⟨l, pathK l k, tI k, bI k, rfl, rfl, rfl, o.rows, he.rg, by omega, ⟨ht.1, Int.le_trans ht.2 (by decide), by omega, Int.le_trans hb.2 (by decide)⟩, hq⟩) ?_
      refine put_loop (M0 := fun b => if b = c2 then none else M' b) (by decide) (if_pos rfl) (takenP l (tI k) (bI k) (pathK l k)) _ M' kvs (TK l done) rfl (by simp) q3 L.pk (fun b m e => ?_) (by omega) fun ρ' M2 kvs' hρ hM2 hk2 hl2 => ?_
      · have e : (if b = c2 then none else M' b) = some m := e
        by_cases z : b = c2
        · rw [if_pos z] at e; cases e
        · rw [if_neg z] at e; exact e
      · obtain ⟨y11', rfl⟩ : ∃ y11', ρ' = ρ52 s0 a s2 x3 (some (.val (.tup l))) x5 (some (bagD c ps' (lsS (grpL (lenK l) (done ++ [k]))))) (some (.val (.raw (.ref c2)))) (some (.val (.int (cntN l (done ++ [k]))))) (some (.val (spD k))) (some (.val (tupI (pathK l k)))) y11' x12 x13 x14 x15 x16 x17 x18 := by
          rcases hρ with rfl | ⟨d, rfl⟩
          · exact ⟨y11, rfl⟩
          · exact ⟨_, rfl⟩
        have et : TK l (done ++ [k]) = TK l done ++ takenP l (tI k) (bI k) (pathK l k) := by rw [TK_app]; congr 1; unfold TK; rw [List.flatMap_cons, List.flatMap_nil, List.append_nil]
        refine spot_loop o hW h0 h2 hne hac hac2 rest (done ++ [k]) M2 ps' kvs' _ _ _ (by rw [e, List.append_assoc]; rfl) ⟨q1, hl2 c _ ((if_neg hne).trans q2), hM2, by rw [et]; exact hk2, hl2 a _ ((if_neg hac2).trans q4), fun b m eb => ?_⟩ fin
        have hb2 : b ≠ c2 := fun z => by rw [z, h2] at eb; cases eb
        exact hl2 b m ((if_neg hb2).trans (q5 b m eb))
    refine ⟨c, ps, keysI (grpL (lenK l) done), lsS (grpL (lenK l) done), rfl, by rw [lsS_len]; exact L.ln, by rw [keysI_len]; exact L.ln.symm, L.mc, ?_⟩
    have elen : Ev (dOp fSub (dB1 fLen (dVar 10)) (dC (.int 1))) w (ρ52 s0 a s2 x3 (some (.val (.tup l))) x5 (some (bagD c ps (lsS (grpL (lenK l) done)))) (some (.val (.raw (.ref c2)))) (some (.val (.int (cntN l (done ++ [k]))))) (some (.val (spD k))) (some (.val (tupI (pathK l k)))) y11 x12 x13 x14 x15 x16 x17 x18) M (.int (((pathK l k).length : Int) - 1)) :=
      ev_op (ev_b1 (ev_var rfl) (z := .int ((pathK l k).length : Int)) fun κ hκ => by show κ (.int ((pathK l k).map D.int).length); rw [List.length_map]; exact hκ) ev_c o2_sub
    refine elen _ ⟨L.mc, by rw [keysI_len]; omega, .inl (((pathK l k).length : Int) - 1), rfl, fun j hj => ?_, fun hn p => ?_⟩
    · obtain ⟨r, g1, g2⟩ := addI_at (k := k) one hj
      have hr := gok.cnt _ (List.mem_of_getElem? g1)
      have hr : r.length ≤ done.length := hr
      have eG : grpL (lenK l) (done ++ [k]) = (grpL (lenK l) done).set j ([((pathK l k).length : Int) - 1], r ++ [k]) := by rw [grpL_snoc]; exact g2
      have eK : keysI (grpL (lenK l) (done ++ [k])) = keysI (grpL (lenK l) done) := by rw [eG]; unfold keysI; rw [List.map_set]; exact set_self (by rw [List.getElem?_map, g1]; rfl)
      have eL : lsS (grpL (lenK l) (done ++ [k])) = (lsS (grpL (lenK l) done)).set j (r.map spD ++ [spD k]) := by rw [eG]; unfold lsS; rw [List.map_set, List.map_append]; rfl
      refine ⟨r.map spD, by unfold lsS; rw [List.getElem?_map, g1]; rfl, by rw [List.length_map]; omega, ?_⟩
      have := next M ps (by rw [eG, List.length_set]; exact L.ln) (by rw [eK]; exact L.mc) L.m2 L.ma L.le
      rw [eL] at this
      exact this
    · have g2 := addI_no (k := k) one hn
      have eG : grpL (lenK l) (done ++ [k]) = grpL (lenK l) done ++ [([((pathK l k).length : Int) - 1], [k])] := by rw [grpL_snoc]; exact g2
      have eK : keysI (grpL (lenK l) (done ++ [k])) = keysI (grpL (lenK l) done) ++ [.inl (((pathK l k).length : Int) - 1)] := by rw [eG]; unfold keysI; rw [List.map_append]; rfl
      have eL : lsS (grpL (lenK l) (done ++ [k])) = lsS (grpL (lenK l) done) ++ [[spD k]] := by rw [eG]; unfold lsS; rw [List.map_append]; rfl
      have := next (updM M c (dikB (keysI (grpL (lenK l) done) ++ [.inl (((pathK l k).length : Int) - 1)]) (ps ++ [p]))) (ps ++ [p]) (by rw [eG, List.length_append, List.length_append, L.ln]; rfl) (by rw [eK]; exact updM_same) (by rw [updM_neL (Ne.symm hne)]; exact L.m2) (by rw [updM_neL hac]; exact L.ma) (fun b m eb => by
        have hb2 : b ≠ c := fun z => by rw [z, h0] at eb; cases eb
        rw [updM_neL hb2]; exact L.le b m eb)
      rw [eL] at this
      exact this
theorem l52_2 {M0 : Mm} (o : PrO l) (hW : wholeL l ≤ 120) (h0 : M0 c = none) (h2 : M0 c2 = none) (hne : c ≠ c2) (hac : a ≠ c) (hac2 : a ≠ c2) (m1 : M c = some (.dik [])) (m2 : M c2 = some (.dct [])) (m3 : M a = some .draw) (m4 : MLe M0 M)
    (fin : ∀ M' ps' kvs' y9 y10 y11, Lp52 M0 a c c2 l (regs l) ps' kvs' M' → P.nx (ρ52 s0 a s2 x3 (some (.val (.tup l))) x5 (some (bagD c ps' (lsS (grpL (lenK l) (regs l))))) (some (.val (.raw (.ref c2)))) (some (.val (.int (cntN l (regs l))))) y9 y10 y11 x12 x13 x14 x15 x16 x17 x18) M') :
    rd_l52_2 C w P (ρ52 s0 a s2 x3 (some (.val (.tup l))) x5 (some (.val (.raw (.ref c)))) (some (.val (.raw (.ref c2)))) (some (.val (.int 0))) x9 x10 x11 x12 x13 x14 x15 x16 x17 x18) M := by
  have wp : 0 < wholeL l := (hvL_wd o.rows).lcm.1
  refine ⟨_, rfl, ?_⟩
  refine forL52 (ds := (regs l).map spD) (ev_call (eva_cons (ev_call (v := .int (wholeL l)) (eva_cons (ev_var rfl) eva_nil) fun q e hq => ⟨l, rfl, o.rows, hq⟩) eva_nil) fun q e hq => ⟨⟨by omega, by omega⟩, hq⟩) ?_
  exact spot_loop (C := C) o hW h0 h2 hne hac hac2 (regs l) [] M [] [] x9 x10 x11 rfl ⟨rfl, m1, m2, PrsOk.nil, m3, m4⟩ fin
def dk52 (l : List D) : List (Key × D) := (keysI (grpL (lenK l) (regs l))).zip ((lsS (grpL (lenK l) (regs l))).map .lst)
theorem zip_keys : ∀ {ks : List Key} {ds : List D}, ks.length = ds.length → (ks.zip ds).map (fun kv => dOfK kv.1) = ks.map dOfK
  | [], [], _ => rfl
  | [], _ :: _, h => by cases h
  | _ :: _, [], h => by cases h
  | k :: ks, d :: ds, h => congrArg _ (zip_keys (Nat.succ.inj h))
theorem l52_3 {M0 : Mm} {ps : List Addr} {kvs : List (D × D)} (o : PrO l) (h0 : M0 c = none) (hne : c ≠ c2) (hac : a ≠ c) (L : Lp52 M0 a c c2 l (regs l) ps kvs M)
    (hN : ∀ (m : Int) M', (∃ k ∈ regs l, ((pathK l k).length : Int) - 1 = m) → (∀ k ∈ regs l, ((pathK l k).length : Int) - 1 ≤ m) → M' c = some (.dik (dk52 l)) → M' c2 = some (.dct kvs) → M' a = some .draw → MLe M0 M' →
      P.nx (ρ52 s0 a s2 x3 x4 x5 (some (.val (.raw (.ref c)))) x7 x8 x9 x10 x11 (some (.val (.int m))) x13 x14 x15 x16 x17 x18) M') :
    rd_l52_3 C w P (ρ52 s0 a s2 x3 x4 x5 (some (bagD c ps (lsS (grpL (lenK l) (regs l))))) x7 x8 x9 x10 x11 x12 x13 x14 x15 x16 x17 x18) M := by
  have wp : 0 < wholeL l := (hvL_wd o.rows).lcm.1
  have ok := grpL_ok (lenK l) (regs l)
  have one := one_grp l (regs l)
  have ln := L.ln
  have mc := L.mc
  have h0r : (0 : Int) ∈ regs l := (regs_mem (by omega)).mpr ⟨by omega, by omega⟩
  refine ⟨c, ps, lsS (grpL (lenK l) (regs l)), rfl, by rw [lsS_len]; exact ln, keysI (grpL (lenK l) (regs l)), by rw [keysI_len]; exact ln.symm, mc, ?_⟩
  have hM1 : updM M c (.dik (dk52 l)) c2 = some (.dct kvs) := by rw [updM_neL (Ne.symm hne)]; exact L.m2
  have hM2 : updM M c (.dik (dk52 l)) a = some .draw := by rw [updM_neL hac]; exact L.ma
  have hM3 : MLe M0 (updM M c (.dik (dk52 l))) := fun b m eb => by
    have hb2 : b ≠ c := fun z => by rw [z, h0] at eb; cases eb
    rw [updM_neL hb2]; exact L.le b m eb
  have ek : (dk52 l).map (fun kv => dOfK kv.1) = ((grpL (lenK l) (regs l)).map fun g => g.1.headD 0).map D.int := by
    unfold dk52
    rw [zip_keys (by rw [keysI_len, List.length_map, lsS_len])]
    unfold keysI
    rw [List.map_map, List.map_map]; rfl
  have edk : EvA (dKeysDk (dVar 6)) w (ρ52 s0 a s2 x3 x4 x5 (some (.val (.raw (.ref c)))) x7 x8 x9 x10 x11 x12 x13 x14 x15 x16 x17 x18) (updM M c (.dik (dk52 l))) (((grpL (lenK l) (regs l)).map fun g => g.1.headD 0).map D.int) := by
    intro q hq
    rw [← ek] at hq
    have e0 : Ev (dVar 6) w (ρ52 s0 a s2 x3 x4 x5 (some (.val (.raw (.ref c)))) x7 x8 x9 x10 x11 x12 x13 x14 x15 x16 x17 x18) (updM M c (.dik (dk52 l))) (.raw (.ref c)) := ev_var rfl
    refine e0 _ ?_
    exact asDk_in updM_same hq
  obtain ⟨g0, hg0, _⟩ := ok.all 0 h0r
  cases eg : (grpL (lenK l) (regs l)).map fun g => g.1.headD 0 with
  | nil => rw [List.map_eq_nil_iff] at eg; rw [eg] at hg0; cases hg0
  | cons n r =>
    rw [eg] at edk
    have m1 := maxL_mem r n
    have m2 := maxL_le r n
    have omax : Op1 fMax (.lst ((n :: r).map D.int)) (.int (maxL n r)) := fun k hk => by
      show match intsOf ((n :: r).map D.int) with | some (n :: r) => k (.int (maxL n r)) | _ => False
      rw [intsOf_mp]
      exact hk
    refine set_ev (w := w) (ρ := ρ52 s0 a s2 x3 x4 x5 (some (.val (.raw (.ref c)))) x7 x8 x9 x10 x11 x12 x13 x14 x15 x16 x17 x18) (M := updM M c (.dik (dk52 l))) (ev_b1 (ev_lc edk) omax) ?_
    refine hN (maxL n r) _ ?_ (fun k hk => ?_) updM_same hM1 hM2 hM3
    · rw [← eg] at m1
      obtain ⟨g, hg, e1⟩ := List.mem_map.mp m1
      cases e2 : g.2 with
      | nil => exact absurd e2 (ok.ne g hg)
      | cons k r' =>
        obtain ⟨q1, q2⟩ := ok.key g hg k (by rw [e2]; simp)
        refine ⟨k, q1, ?_⟩
        rw [← e1, ← q2]; rfl
    · obtain ⟨g, hg, e1, _⟩ := ok.all k hk
      have : g.1.headD 0 ∈ n :: r := by rw [← eg]; exact List.mem_map_of_mem hg
      rw [e1] at this
      have this : ((pathK l k).length : Int) - 1 ∈ n :: r := this
      rcases List.mem_cons.mp this with h | h
      · rw [h]; exact m2.1
      · exact m2.2 _ h
theorem l52_4 {m : Int} (o : PrO l) (h1 : ∃ k ∈ regs l, ((pathK l k).length : Int) - 1 = m) (h2 : ∀ k ∈ regs l, ((pathK l k).length : Int) - 1 ≤ m) (hM : M c = some (.dik (dk52 l))) (hW : wholeL l ≤ 120)
    (hN : ∀ d, MostIs l d → P.nx (ρ52 s0 a s2 x3 x4 x5 (some (.val (.raw (.ref c)))) x7 (some (.val (.int (cntN l (regs l))))) x9 x10 x11 (some (.val (.int m))) (some (.val d)) x14 x15 x16 x17 x18) M) :
    rd_l52_4 C w P (ρ52 s0 a s2 x3 x4 x5 (some (.val (.raw (.ref c)))) x7 (some (.val (.int (cntN l (regs l))))) x9 x10 x11 (some (.val (.int m))) x13 x14 x15 x16 x17 x18) M := by
  have ok := grpL_ok (lenK l) (regs l)
  have one := one_grp l (regs l)
  have wp : 0 < wholeL l := (hvL_wd o.rows).lcm.1
  have hrl : (regs l).length ≤ 241 := by unfold regs; rw [ixs_len]; omega
  have ht : EvT (dTst (dOp fGt (dVar 8) (dC (.int 0)))) w (ρ52 s0 a s2 x3 x4 x5 (some (.val (.raw (.ref c)))) x7 (some (.val (.int (cntN l (regs l))))) x9 x10 x11 (some (.val (.int m))) x13 x14 x15 x16 x17 x18) M (decide (cntN l (regs l) > 0)) := evt (ev_op (f := fGt) (ev_var rfl) (ev_c (d := .int 0)) o2_cmp)
  by_cases cc : cntN l (regs l) > 0
  · refine set_ev (d := .non) (ev_ife ht (fun _ => ev_c) (fun z => by rw [decide_eq_true cc] at z; cases z)) (hN _ (.inl ⟨?_, rfl⟩))
    unfold cntN at cc
    have : 0 < ((regs l).filter (isNo l)).length := by omega
    obtain ⟨k, hk⟩ := List.exists_mem_of_length_pos this
    exact ⟨k, (List.mem_filter.mp hk).1, (List.mem_filter.mp hk).2⟩
  · obtain ⟨k0, hk0, ek0⟩ := h1
    obtain ⟨g, hg, eg, hkg⟩ := ok.all k0 hk0
    have egm : g.1 = [m] := by rw [eg]; show [((pathK l k0).length : Int) - 1] = [m]; rw [ek0]
    have hget := get_grpI ok.nd one hg egm
    have hgl := ok.cnt g hg
    have hno : ∀ k ∈ regs l, isNo l k = false := fun k hk => by
      cases e : isNo l k with
      | false => rfl
      | true =>
        exfalso
        apply cc
        unfold cntN
        have := List.length_pos_of_mem (List.mem_filter.mpr ⟨hk, e⟩)
        omega
    have eget : Ev (dGetDk (dVar 6) (dVar 12)) w (ρ52 s0 a s2 x3 x4 x5 (some (.val (.raw (.ref c)))) x7 (some (.val (.int (cntN l (regs l))))) x9 x10 x11 (some (.val (.int m))) x13 x14 x15 x16 x17 x18) M (.lst (g.2.map spD)) := by
      intro q hq
      have e0 : Ev (dVar 6) w (ρ52 s0 a s2 x3 x4 x5 (some (.val (.raw (.ref c)))) x7 (some (.val (.int (cntN l (regs l))))) x9 x10 x11 (some (.val (.int m))) x13 x14 x15 x16 x17 x18) M (.raw (.ref c)) := ev_var rfl
      have e1 : Ev (dVar 12) w (ρ52 s0 a s2 x3 x4 x5 (some (.val (.raw (.ref c)))) x7 (some (.val (.int (cntN l (regs l))))) x9 x10 x11 (some (.val (.int m))) x13 x14 x15 x16 x17 x18) M (.int m) := ev_var rfl
      refine e0 _ ?_
      refine e1 _ ?_
      exact asDk_in hM ⟨.inl m, _, rfl, hget, hq⟩
    have es : Ev (dCall (sp__law_simplest C) [] (dCons (dGetDk (dVar 6) (dVar 12)) dNil)) w (ρ52 s0 a s2 x3 x4 x5 (some (.val (.raw (.ref c)))) x7 (some (.val (.int (cntN l (regs l))))) x9 x10 x11 (some (.val (.int m))) x13 x14 x15 x16 x17 x18) M (lstK g.2) := ev_call (eva_cons eget eva_nil) fun q e hq => ⟨g.2, rfl, by omega, hq⟩
    have pl : 0 ≤ m + 1 := by omega
    refine set_ev (d := .tup [.int m, lstK g.2]) (ev_ife ht (fun z => by rw [decide_eq_false cc] at z; cases z) (fun _ => ev_tup (eva_cons (ev_var rfl) (eva_cons es eva_nil)) (by show 2 ≤ 1000000; decide))) (hN _ (.inr ⟨hno, (m + 1).toNat, ⟨k0, hk0, by omega⟩, fun k hk => by have := h2 k hk; omega, ?_⟩))
    rw [show (((m + 1).toNat : Nat) : Int) - 1 = m by omega]
    congr 3
    refine lstK_ext fun k => ?_
    rw [List.mem_filter, decide_eq_true_eq]
    constructor
    · intro hk
      obtain ⟨q1, q2⟩ := ok.key g hg k hk
      refine ⟨q1, ?_⟩
      have q2 : [((pathK l k).length : Int) - 1] = g.1 := q2
      rw [egm] at q2
      have := (List.cons.inj q2).1
      omega
    · rintro ⟨q1, q2⟩
      obtain ⟨g', hg', e1, hk'⟩ := ok.all k q1
      have e1 : g'.1 = [((pathK l k).length : Int) - 1] := e1
      have e2 : g'.1 = g.1 := by rw [e1, egm, show ((pathK l k).length : Int) - 1 = m by omega]
      have look := look_grp ok.nd hg
      have look' := look_grp ok.nd hg'
      rw [e2, look] at look'
      have : g.2.map D.int = g'.2.map D.int := by
        have := Option.some.inj look'
        injection this
      have : g.2 = g'.2 := by
        have h3 := congrArg intsL this
        rwa [intsL_map, intsL_map] at h3
      rw [this]; exact hk'
theorem lst_shw52 {ks : List Int} (h : ∀ k ∈ ks, 0 ≤ k ∧ k ≤ 10000) : Shw 1 1000 (lstK ks) := by
  unfold lstK
  cases e : ks.find? (isLst ks) with
  | none =>
    have := Shw.non (n := 1)
    exact ⟨this.ok, this.sh, this.lv, Nat.le_trans this.wt (by decide)⟩
  | some m =>
    have hm := h m (List.mem_of_find?_eq_some e)
    have ht := tI_rg (k := m) (W := 10000) hm.1 (by omega)
    have hb := bI_rg m
    have z : ∀ i : Int, 0 ≤ i → i ≤ 20000 → Szb i := fun i h0 h1 => ⟨by omega, by omega⟩
    have := Shw.tup (n := 0) ((ShwL.cons (Shw.int (n := 0) (z (tI m) ht.1 ht.2)) (ShwL.cons (Shw.int (n := 0) (z (bI m) (by omega) (by omega))) .nil)))
    exact ⟨this.ok, this.sh, this.lv, Nat.le_trans this.wt (by decide)⟩
theorem most_shw {d : D} (o : RowsOk l) (hW : wholeL l ≤ 120) (h : MostIs l d) : Shw 2 2000 d := by
  have wp : 0 < wholeL l := (hvL_wd o).lcm.1
  rcases h with ⟨_, rfl⟩ | ⟨_, m, ⟨k, hk, hkm⟩, _, rfl⟩
  · have := Shw.non (n := 2)
    exact ⟨this.ok, this.sh, this.lv, Nat.le_trans this.wt (by decide)⟩
  · obtain ⟨e, he⟩ := path_end o (tI k) (bI k)
    have hl : (pathK l k).length ≤ 21 := he.len
    have := Shw.tup (n := 1) (ShwL.cons (Shw.int (n := 1) (i := (m : Int) - 1) ⟨by omega, by omega⟩) (ShwL.cons (lst_shw52 (ks := (regs l).filter fun k => decide ((pathK l k).length = m)) fun k hk => by
      have := (regs_mem (by omega)).mp (List.mem_filter.mp hk).1
      omega) .nil))
    exact ⟨this.ok, this.sh, this.lv, Nat.le_trans this.wt (by decide)⟩
theorem ev_most {ρ : Rho} {pa : PTE} {d : D} (ha : Ev pa w ρ M (prgD C l)) (o : RowsOk l) (hW : wholeL l ≤ 5040) (h : MostIs l d) : Ev (dCall (sp_most_looks C) [] (dCons pa dNil)) w ρ M d := ev_call (eva_cons ha eva_nil) fun q e hq => ⟨l, rfl, o, hW, fun d' h' => by rw [most_uniq h' h]; exact hq⟩
theorem l52_5 {d : D} (o : PrO l) (hW : wholeL l ≤ 120) (h : MostIs l d) (hN : P.nx (ρ52 s0 a s2 x3 x4 (some (.val (prgD C l))) x6 x7 x8 x9 x10 x11 x12 (some (.val d)) x14 x15 x16 x17 x18) M) :
    rd_l52_5 C w P (ρ52 s0 a s2 x3 x4 (some (.val (prgD C l))) x6 x7 x8 x9 x10 x11 x12 (some (.val d)) x14 x15 x16 x17 x18) M := by
  have hs := most_shw o.rows hW h
  have hok := hs.ok50
  have o1r : Op1 fRepr d (.str (toPy d).shown) := fun k hk => ⟨hok, hs.show (by decide), hk⟩
  have e2 : Ev (dCallK (sp_most_looks C) [0] (dCons (dVar 5) dNil)) w (ρ52 s0 a s2 x3 x4 (some (.val (prgD C l))) x6 x7 x8 x9 x10 x11 x12 (some (.val d)) x14 x15 x16 x17 x18) M d := fun q hq =>
    (eva_cons (ev_var rfl) eva_nil) _ ⟨l, rfl, o.rows, by omega, fun d' h' => by rw [most_uniq h' h]; exact hq⟩
  refine if_F (evt_orF (evt (ev_op (ev_b1 (ev_most (ev_var rfl) o.rows (by omega) h) o1r) (ev_b1 (ev_var rfl) o1r) o2_neSS)) (evt (ev_op e2 (ev_var rfl) ?_))) hN
  have := o2_ne hok hok
  rw [eqD_refl] at this
  exact this
theorem g2_52 {i j : Nat} {x y : D} {ρ : Rho} {k : Rho → Prop} (h : k (st (st ρ i (.val x)) j (.val y))) : gTp 2 (gsCons (gNm i) (gsCons (gNm j) gsNil)) (.tup [x, y]) ρ k := ⟨rfl, h⟩
theorem l52_7 {kvs : List (D × D)} {T : List (Int × Int)} (o : PrO l) (hM : M c2 = some (.dct kvs)) (hk : PrsOk kvs T) (hN : ∀ y15 y16 y17, P.nx (ρ52 s0 a s2 x3 (some (.val (.tup l))) x5 x6 (some (.val (.raw (.ref c2)))) x8 x9 x10 x11 x12 x13 (some (.val (.lst ((untF T l 0).map cpD)))) y15 y16 y17 x18) M) :
    rd_l52_7 C w P (ρ52 s0 a s2 x3 (some (.val (.tup l))) x5 x6 (some (.val (.raw (.ref c2)))) x8 x9 x10 x11 x12 x13 (some (.val (.lst []))) x15 x16 x17 x18) M := by
  have hul : ∀ i, (untF T (l.take i) 0).length ≤ 500 := fun i => by
    have h1 := untF_len (T := T) (many := l.length) (l.take i) 0 fun d hd => rowK (o.rows.row d (List.mem_of_mem_take hd))
    have h2 := o.rows.len
    rw [List.length_take] at h1
    omega
  refine forR_ix (fun i ρ M2 => M2 = M ∧ ∃ y15 y16 y17 : Option Sv, ρ = ρ52 s0 a s2 x3 (some (.val (.tup l))) x5 x6 (some (.val (.raw (.ref c2)))) x8 x9 x10 x11 x12 x13 (some (.val (.lst ((untF T (l.take i) 0).map cpD)))) y15 y16 y17 x18) _ 0 ?_ ?_ _ _ ⟨rfl, x15, x16, x17, rfl⟩
  · rintro i d hd F hF ρ M2 ⟨rfl, y15, y16, y17, rfl⟩
    rw [enumD_get] at hd
    obtain ⟨d0, hd0, rfl⟩ := Option.map_eq_some_iff.mp hd
    obtain ⟨hi, ed⟩ := List.getElem?_eq_some_iff.mp hd0
    have hrk := rowK (o.rows.row d0 (List.mem_of_getElem? hd0))
    have hst := untF_snoc T d0 (l.take i) 0
    rw [show l.take i ++ [d0] = l.take (0 + i + 1) by rw [Nat.zero_add, List.take_add_one, hd0]; rfl, List.length_take, Nat.min_eq_left (Nat.le_of_lt hi), Int.zero_add] at hst
    have hg := gsN_le hrk
    have hu := hul i
    generalize hcs : (if sortS d0 = "look" then ixs (gsN d0) else []) = cs
    have hcl : cs.length ≤ 25 := by rw [← hcs]; split; rw [ixs_len]; exact hg; exact Nat.zero_le _
    have hst2 : (if sortS d0 = "look" then ((ixs (gsN d0)).filter fun c => !decide (((i : Int), c) ∈ T)).map (fun c => ((i : Int), c)) else []) = (cs.filter fun c => !decide (((i : Int), c) ∈ T)).map (fun c => ((i : Int), c)) := by
      rw [← hcs]; split <;> rfl
    rw [hst2] at hst
    have hF2 : ∀ ρ, (∃ y15 y16 y17 : Option Sv, ρ = ρ52 s0 a s2 x3 (some (.val (.tup l))) x5 x6 (some (.val (.raw (.ref c2)))) x8 x9 x10 x11 x12 x13 (some (.val (.lst ((untF T (l.take i) 0 ++ (cs.filter fun c => !decide (((i : Int), c) ∈ T)).map (fun c => ((i : Int), c))).map cpD)))) y15 y16 y17 x18) → F ρ M2 := fun ρ ⟨y15, y16, y17, e⟩ => hF ρ M2 ⟨rfl, y15, y16, y17, by rw [hst]; exact e⟩
    rw [Nat.zero_add] at *
    generalize untF T (l.take i) 0 = U at hF2 hu
    refine g2_52 ?_
    show (dSeq (dSet 17 _) _) w _ (ρ52 s0 a s2 x3 (some (.val (.tup l))) x5 x6 (some (.val (.raw (.ref c2)))) x8 x9 x10 x11 x12 x13 (some (.val (.lst (U.map cpD)))) (some (.val (.int i))) (some (.val d0)) y17 x18) M2
    have e5 : EvT (dTst (dOp fEq (dOp fIx (dVar 16) (dC (.int 0))) (dC (.str "look")))) w (ρ52 s0 a s2 x3 (some (.val (.tup l))) x5 x6 (some (.val (.raw (.ref c2)))) x8 x9 x10 x11 x12 x13 (some (.val (.lst (U.map cpD)))) (some (.val (.int i))) (some (.val d0)) y17 x18) M2 (decide (sortS d0 = "look")) :=
      evt (ev_is hrk (by decide +kernel) (ev_var rfl))
    have e17 : Ev (dIf (dTst (dOp fEq (dOp fIx (dVar 16) (dC (.int 0))) (dC (.str "look")))) (dL (dLRg1 (dB1 fLen (dOp fIx (dVar 16) (dC (.int 3)))))) (dL (dLst dNil))) w (ρ52 s0 a s2 x3 (some (.val (.tup l))) x5 x6 (some (.val (.raw (.ref c2)))) x8 x9 x10 x11 x12 x13 (some (.val (.lst (U.map cpD)))) (some (.val (.int i))) (some (.val d0)) y17 x18) M2 (.lst (cs.map .int)) := by
      refine ev_ife e5 (fun cc => ?_) (fun cc => ?_)
      · have cc := of_decide_eq_true cc
        rw [if_pos cc] at hcs
        have e3 : ∃ gl, atI (match d0 with | .tup l => l | _ => []) 3 = some (.tup gl) ∧ gl.length = gsN d0 ∧ ∃ l0, d0 = .tup l0 := by
          cases hrk with
          | tell s h => exact absurd (show ("tell" : Str) = "look" from cc) (by decide +kernel)
          | look h es gs q0 qa qe ql qg qn => exact ⟨_, at3, rfl, _, rfl⟩
        obtain ⟨gl, e3, e4, l0, rfl⟩ := e3
        have e3 : atI l0 3 = some (.tup gl) := e3
        have e6 : Ev (dB1 fLen (dOp fIx (dVar 16) (dC (.int 3)))) w (ρ52 s0 a s2 x3 (some (.val (.tup l))) x5 x6 (some (.val (.raw (.ref c2)))) x8 x9 x10 x11 x12 x13 (some (.val (.lst (U.map cpD)))) (some (.val (.int i))) (some (.val (.tup l0))) y17 x18) M2 (.int gl.length) := ev_b1 (ixT_ev (ev_var rfl) ev_c e3) fun k hk => hk
        have el : gl.length = gsN (.tup l0) := e4
        refine ev_lc fun q hq => e6 _ ⟨⟨by omega, by omega⟩, ?_⟩
        rw [show ((gl.length : Nat) : Int).toNat = gsN (.tup l0) by omega, rngD0, hcs]
        exact hq
      · have cc := of_decide_eq_false cc
        rw [if_neg cc] at hcs
        rw [← hcs]
        exact ev_lst eva_nil (by decide)
    refine sqSet e17 ?_
    show dSet 14 _ w _ (ρ52 s0 a s2 x3 (some (.val (.tup l))) x5 x6 (some (.val (.raw (.ref c2)))) x8 x9 x10 x11 x12 x13 (some (.val (.lst (U.map cpD)))) (some (.val (.int i))) (some (.val d0)) (some (.val (.lst (cs.map .int)))) x18) M2
    have evc : Ev (dL (dComp [19] (iA (dVar 17)) (gNm 19) (dTst (dInN true (dTup (dCons (dVar 15) (dCons (dVar 19) dNil))) (dVar 7))) (dTup (dCons (dVar 15) (dCons (dVar 19) dNil))))) w (ρ52 s0 a s2 x3 (some (.val (.tup l))) x5 x6 (some (.val (.raw (.ref c2)))) x8 x9 x10 x11 x12 x13 (some (.val (.lst (U.map cpD)))) (some (.val (.int i))) (some (.val d0)) (some (.val (.lst (cs.map .int)))) x18) M2
        (.lst ((cs.filter fun c => !decide (((i : Int), c) ∈ T)).map fun c => cpD ((i : Int), c))) := fun q hq => by
      refine ⟨rfl, ?_⟩
      refine compR_sel (c := D.int) (f := fun c => cpD ((i : Int), c)) (p := fun c => !decide (((i : Int), c) ∈ T)) _ (fun c hc κ kf hκ => ?_) (by omega) hq
      refine ⟨by show 2 ≤ 1000000; decide, ?_⟩
      refine (ev_var (w := w0) (i := 7) (d := .raw (.ref c2)) rfl) _ ?_
      refine dct_at hM ?_
      refine key_pair (p := ((i : Int), c)) ?_
      show (if (!hasK kvs (nkI [(i : Int), c])) = true then _ else _)
      rw [hk.has ((i : Int), c)]
      cases cx : decide (((i : Int), c) ∈ T) with
      | true => rw [cx] at hκ; exact hκ
      | false => rw [cx] at hκ; exact ⟨by show 2 ≤ 1000000; decide, hκ⟩
    refine set_ev (d := .lst (U.map cpD ++ (cs.filter fun c => !decide (((i : Int), c) ∈ T)).map fun c => cpD ((i : Int), c))) (ev_op (ev_var rfl) evc (o2_cat ?_)) ?_
    · rw [List.length_map, List.length_map]
      have := List.length_filter_le (fun c => !decide (((i : Int), c) ∈ T)) cs
      omega
    · exact hF2 _ ⟨_, _, _, by rw [List.map_append, List.map_map]; rfl⟩
  · rintro ρ M2 ⟨rfl, y15, y16, y17, rfl⟩
    rw [enumD_len, Nat.zero_add, List.take_length]
    exact hN _ _ _
theorem ev_unt {ρ : Rho} {pa : PTE} (ha : Ev pa w ρ M (prgD C l)) (o : RowsOk l) (hW : wholeL l ≤ 5040) : EvA (dCallL (sp_untaken C) (dCons pa dNil)) w ρ M ((untL l).map cpD) := fun q hq => ha _ ⟨l, rfl, o, hW, hq⟩
theorem l52_t (o : PrO l) (hW : wholeL l ≤ 120) (hN : ∀ y18, P.nx (ρ52 s0 a s2 x3 x4 (some (.val (prgD C l))) x6 x7 x8 x9 x10 x11 x12 x13 (some (.val (.lst ((untL l).map cpD)))) x15 x16 x17 y18) M) :
    (dSeq (rd_l52_8 C) (dSeq (rd_l52_9 C) (dSeq (rd_l52_10 C) (rd_l52_11 C)))) w P (ρ52 s0 a s2 x3 x4 (some (.val (prgD C l))) x6 x7 x8 x9 x10 x11 x12 x13 (some (.val (.lst ((untL l).map cpD)))) x15 x16 x17 x18) M := by
  have hs : Shw 2 200000 (.lst ((untL l).map cpD)) := shw_unt o.rows _
  have hok := hs.ok50
  have hl : (untL l).length ≤ 500 := by
    have h1 := untF_len (T := TK l (regs l)) l 0 fun d hd => rowK (o.rows.row d hd)
    have h2 := o.rows.len
    have h1 : (untL l).length ≤ 25 * l.length := h1
    omega
  have o1r : Op1 fRepr (.lst ((untL l).map cpD)) (.str (toPy (.lst ((untL l).map cpD))).shown) := fun k hk => ⟨hok, hs.show (by decide), hk⟩
  refine sqSetO (ev_unt (ev_var rfl) o.rows (by omega)) ?_
  show (dSeq (rd_l52_9 C) (dSeq (rd_l52_10 C) (rd_l52_11 C))) w P (ρ52 s0 a s2 x3 x4 (some (.val (prgD C l))) x6 x7 x8 x9 x10 x11 x12 x13 (some (.val (.lst ((untL l).map cpD)))) x15 x16 x17 (some (.own ((untL l).map cpD)))) M
  refine sqIfFN (evt (ev_op (ev_b1 (ev_own rfl) o1r) (ev_b1 (ev_var rfl) o1r) o2_neSS)) ?_
  refine sqApp rfl (by rw [List.length_map]; omega) ev_c ?_
  have eu : EvA (dCallLK (sp_untaken C) [0] (dCons (dVar 5) dNil)) w (ρ52 s0 a s2 x3 x4 (some (.val (prgD C l))) x6 x7 x8 x9 x10 x11 x12 x13 (some (.val (.lst ((untL l).map cpD)))) x15 x16 x17 (some (.own ((untL l).map cpD ++ [.non])))) M ((untL l).map cpD) := fun q hq => by
    have e0 : EvA (dCons (dVar 5) dNil) w (ρ52 s0 a s2 x3 x4 (some (.val (prgD C l))) x6 x7 x8 x9 x10 x11 x12 x13 (some (.val (.lst ((untL l).map cpD)))) x15 x16 x17 (some (.own ((untL l).map cpD ++ [.non])))) M [prgD C l] := eva_cons (ev_var rfl) eva_nil
    exact e0 _ ⟨l, rfl, o.rows, by omega, hq⟩
  refine if_F (evt (ev_op (ev_lc eu) (ev_var rfl) ?_)) (hN _)
  have := o2_ne hok hok
  rw [eqD_refl] at this
  exact this
theorem l52_b {M0 : Mm} (hm : M a = some .draw) (hle : MLe M0 M) (hN : ∀ M' (z4 z5 z6 z7 z8 z9 z10 z11 z12 z13 z14 z15 z16 z17 z18 : Option Sv), M' a = some .draw → MLe M0 M' → P.nx (ρ52 s0 a s2 x3 z4 z5 z6 z7 z8 z9 z10 z11 z12 z13 z14 z15 z16 z17 z18) M') :
    rd_l52_b C w P (ρ52 s0 a s2 x3 x4 x5 x6 x7 x8 x9 x10 x11 x12 x13 x14 x15 x16 x17 x18) M := by
  refine l52_0 (C := C) (w := w) hm fun l o hW => ?_
  refine l52_1 (C := C) (w := w) o fun c c2 hne hc hc2 => ?_
  have hac : a ≠ c := fun z => by rw [← z, hm] at hc; cases hc
  have hac2 : a ≠ c2 := fun z => by rw [← z, hm] at hc2; cases hc2
  refine l52_2 (C := C) (w := w) (M0 := M) o hW hc hc2 hne hac hac2 (by rw [updM_neL hne]; exact updM_same) updM_same (by rw [updM_neL hac2, updM_neL hac]; exact hm) (fun b m eb => ?_) fun M' ps kvs y9 y10 y11 L => ?_
  · have hb1 : b ≠ c := fun z => by rw [z, hc] at eb; cases eb
    have hb2 : b ≠ c2 := fun z => by rw [z, hc2] at eb; cases eb
    rw [updM_neL hb2, updM_neL hb1]; exact eb
  refine l52_3 (C := C) (w := w) (M0 := M) o hc hne hac L fun m M2 h1 h2 hM1 hM2 hM3 hM4 => ?_
  refine l52_4 (C := C) (w := w) o h1 h2 hM1 hW fun d hd => ?_
  refine l52_5 (C := C) (w := w) o hW hd ?_
  refine sqSet (ev_lst eva_nil (by decide)) ?_
  refine l52_7 (C := C) (w := w) (c2 := c2) o hM2 L.pk fun y15 y16 y17 => ?_
  exact l52_t (C := C) (w := w) o hW fun y18 => hN M2 _ _ _ _ _ _ _ _ _ _ _ _ _ _ _ hM3 fun b m eb => hM4 b m (hle b m eb)
theorem ev_callI52 {ρ : Rho} {pa pb : PTE} {t b : Int} (ha : Ev pa w ρ M (prgD C l)) (hb : Ev pb w ρ M (.tup [.int t, .int b])) (h : RowsOk l) (hs : isSpD (.tup [.int t, .int b]) = true) (hb1 : b ≤ 2 ^ 1000) :
    Ev (dCallI C.Program (sp_Program___call__ C) pa (dCons pb dNil)) w ρ M (.tup ((pathP l t b).map .int)) := fun q hq => ha _ ⟨trivial, hb _ ⟨rfl, l, rfl, h, ⟨rfl, rfl⟩, .inr ⟨t, b, rfl, hs, hb1, hq⟩⟩⟩
theorem l52_m {M0 : Mm} {ns : List Int} (hn : ns.length ≤ 63) (hm : M a = some .draw) (hle : MLe M0 M) (hrt : ∀ M', MLe M0 M' → P.rt (.bl true) M') :
    rd_l52_m C w P (ρ52 (some (.val (.scr ns))) a none none none none none none none none none none none none none none none none none) M := by
  have ech : Ev (dOp fAdd (dB1 fTup (dL (dComp [15] (iR1 (dC (.int 19))) (gNm 15) dYes (dTup (dCons (dC (.str "look")) (dCons (dOp fAdd (dC (.int 1)) (dOp fMod (dVar 15) (dC (.int 6)))) (dCons (dTup dNil) (dCons (dTup (dCons (dOp fAdd (dVar 15) (dC (.int 1))) dNil)) dNil)))))))) (dTup (dCons (dTup (dCons (dC (.str "tell")) (dCons (dC (.str "end")) dNil))) dNil))) w (ρ52 (some (.val (.scr ns))) a none none none none none none none none none none none none none none none none none) M (.tup chL) := by
    have ec : Ev (dL (dComp [15] (iR1 (dC (.int 19))) (gNm 15) dYes (dTup (dCons (dC (.str "look")) (dCons (dOp fAdd (dC (.int 1)) (dOp fMod (dVar 15) (dC (.int 6)))) (dCons (dTup dNil) (dCons (dTup (dCons (dOp fAdd (dVar 15) (dC (.int 1))) dNil)) dNil))))))) w (ρ52 (some (.val (.scr ns))) a none none none none none none none none none none none none none none none none none) M (.lst ((List.range 19).map fun i : Nat => .tup [.str "look", .int (1 + (i : Int) % 6), .tup [], .tup [.int ((i : Int) + 1)]])) := fun q hq => by
      refine ⟨rfl, by decide, by decide, ?_⟩
      rw [show ((19 : Int).toNat) = 19 from rfl, rngD0]
      refine compR_on (c := D.int) (f := fun i => .tup [.str "look", .int (1 + i % 6), .tup [], .tup [.int (i + 1)]]) _ (fun i hi κ kf hκ => ?_) (by rw [ixs_len]; decide) ?_
      · exact ⟨by decide, by show 0 ≤ 1000000; decide, by show 1 ≤ 1000000; decide, by show 4 ≤ 1000000; decide, hκ⟩
      · unfold ixs
        rw [List.map_map]
        exact hq
    exact ev_op (ev_b1 (z := .tup ((List.range 19).map fun i : Nat => .tup [.str "look", .int (1 + (i : Int) % 6), .tup [], .tup [.int ((i : Int) + 1)]])) ec fun k hk => hk) (ev_tup (ds := [.tup [.str "tell", .str "end"]]) (eva_cons (ev_tup (eva_cons ev_c (eva_cons ev_c eva_nil)) (by show 2 ≤ 1000000; decide)) eva_nil) (by show 1 ≤ 1000000; decide)) (o2_catT (by show 19 + 1 ≤ 1000000; decide))
  refine sqSet (d := prgD C chL) (fun q hq => make_prg ech chL_ok (rows_gd52 chL_pro) hq) ?_
  generalize hρ : ρ52 (some (.val (.scr ns))) a (some (.val (prgD C chL))) none none none none none none none none none none none none none none none none = ρ
  have g2 : gt ρ 2 = some (.val (prgD C chL)) := by rw [← hρ]; rfl
  have ne1 : Ev (dOp fNe (dCall (sp_most_looks C) [] (dCons (dVar 2) dNil)) (dTup (dCons (dC (.int 19)) (dCons (dTup (dCons (dC (.int 0)) (dCons (dC (.int 1)) dNil))) dNil)))) w ρ M (.bl false) := by
    have := ev_op (f := fNe) (ev_most (C := C) (w := w) (M := M) (ev_var g2) chL_ok (by rw [chL_whole]; decide) chL_most) (ev_tup (w := w) (ρ := ρ) (M := M) (eva_cons (ev_c (d := .int 19)) (eva_cons (ev_tup (eva_cons (ev_c (d := .int 0)) (eva_cons (ev_c (d := .int 1)) eva_nil)) (by show 2 ≤ 1000000; decide)) eva_nil)) (by show 2 ≤ 1000000; decide)) (o2_ne (by decide) (by decide))
    rw [eqD_refl] at this
    exact this
  have ne2 : Ev (dOp fNe (dCallI C.Program (sp_Program___call__ C) (dVar 2) (dCons (dTup (dCons (dC (.int 0)) (dCons (dC (.int 1)) dNil))) dNil)) (dB1 fTup (dL (dLRg1 (dC (.int 20)))))) w ρ M (.bl false) := by
    have h1 := ev_callI52 (C := C) (w := w) (M := M) (ρ := ρ) (pa := dVar 2) (pb := dTup (dCons (dC (.int 0)) (dCons (dC (.int 1)) dNil))) (t := 0) (b := 1) (ev_var g2) (ev_tup (eva_cons ev_c (eva_cons ev_c eva_nil)) (by show 2 ≤ 1000000; decide)) chL_ok (by decide +kernel) (by decide)
    rw [chL_path] at h1
    have h2 : Ev (dB1 fTup (dL (dLRg1 (dC (.int 20))))) w ρ M (.tup ([0, 1, 2, 3, 4, 5, 6, 7, 8, 9, 10, 11, 12, 13, 14, 15, 16, 17, 18, 19].map D.int)) := ev_b1 (ev_lc (ds := [0, 1, 2, 3, 4, 5, 6, 7, 8, 9, 10, 11, 12, 13, 14, 15, 16, 17, 18, 19].map D.int) fun q hq => ⟨⟨by decide, by decide⟩, hq⟩) fun k hk => hk
    have := ev_op (f := fNe) h1 h2 (o2_ne (by decide) (by decide))
    rw [eqD_refl] at this
    exact this
  have ne3 : Ev (dOp fNe (dL (dCallL (sp_untaken C) (dCons (dVar 2) dNil))) (dL (dLst dNil))) w ρ M (.bl false) := by
    have h1 := ev_unt (C := C) (w := w) (M := M) (ρ := ρ) (pa := dVar 2) (ev_var g2) chL_ok (by rw [chL_whole]; decide)
    rw [chL_unt] at h1
    have := ev_op (f := fNe) (ev_lc h1) (ev_lst (w := w) (ρ := ρ) (M := M) eva_nil (by decide)) (o2_ne (by decide) (by decide))
    exact this
  show (dSeq (dIfS _ _ dNext) _) w P (ρ52 (some (.val (.scr ns))) a (some (.val (prgD C chL))) none none none none none none none none none none none none none none none none) M
  rw [hρ]
  refine sqIfFN (evt_orF (evt ne1) (evt_orF (evt ne2) (evt ne3))) ?_
  subst hρ
  have bd : -1000000 ≤ (1 : Int) + (if (6 : Int) < (ns.length : Nat) then (6 : Int) else ((ns.length : Nat) : Int)) ∧ (1 : Int) + (if (6 : Int) < (ns.length : Nat) then (6 : Int) else ((ns.length : Nat) : Int)) ≤ 1000000 := by split <;> omega
  refine ⟨bd.1, bd.2, ?_⟩
  refine forR_ind (fun _ ρ M' => M' a = some .draw ∧ MLe M0 M' ∧ ∃ z3 z4 z5 z6 z7 z8 z9 z10 z11 z12 z13 z14 z15 z16 z17 z18 : Option Sv, ρ = ρ52 (some (.val (.scr ns))) a (some (.val (prgD C chL))) z3 z4 z5 z6 z7 z8 z9 z10 z11 z12 z13 z14 z15 z16 z17 z18) ?_ ?_ _ _ _ ⟨hm, hle, _, _, _, _, _, _, _, _, _, _, _, _, _, _, _, _, rfl⟩
  · rintro d r ρ M' ⟨hm', hle', z3, z4, z5, z6, z7, z8, z9, z10, z11, z12, z13, z14, z15, z16, z17, z18, rfl⟩ F hF
    exact l52_b (C := C) (M0 := M0) hm' hle' fun M2 z4 z5 z6 z7 z8 z9 z10 z11 z12 z13 z14 z15 z16 z17 z18 h1 h2 => hF _ _ ⟨h1, h2, _, _, _, _, _, _, _, _, _, _, _, _, _, _, _, _, rfl⟩
  · rintro ρ M' ⟨_, hle', _⟩
    exact hrt M' hle'
theorem sh_law (C : Cl) : Shows sp_law 20 (rd_law C) := by
  intro ds M q e h
  obtain ⟨d, rfl, h⟩ := ar1_of h
  obtain ⟨ns, rfl, hn, hq⟩ : ∃ ns, d = .scr ns ∧ ns.length ≤ 63 ∧ q (.bl true) M := by
    cases d with
    | scr ns => exact ⟨ns, rfl, h⟩
    | _ => exact (show False from h).elim
  refine ⟨hn, fun a ha => ?_⟩
  exact l52_m (C := C) (M0 := M) hn updM_same (updM_le ha) fun M' h => ⟨M, h, hq⟩
end
end Px
set_option Elab.async false
set_option linter.all false
set_option maxRecDepth 100000
namespace Px
open PySem PySem.Spec PyProof.Rows L2
def top (i : Nat) : Stmt := PySem.Challenge.pw_flashfolds_k52_most_looks_of_programs.main.body.getD i (.Pass ⟨0, 0, 0, 0⟩)
abbrev s_is_integer : Stmt := top 7
theorem sc_is_integer : FnScope ["thing"] ["thing"] (defScope s_is_integer) := ⟨rfl, rfl, rfl, by decide +kernel, rfl, by decide +kernel, by decide +kernel⟩
abbrev s_divisor : Stmt := top 9
theorem sc_divisor : FnScope ["one", "other"] ["one", "other"] (defScope s_divisor) := ⟨rfl, rfl, rfl, by decide +kernel, rfl, by decide +kernel, by decide +kernel⟩
abbrev s_is_word : Stmt := top 21
theorem sc_is_word : FnScope ["thing", "letter"] ["thing"] (defScope s_is_word) := ⟨rfl, rfl, rfl, by decide +kernel, rfl, by decide +kernel, by decide +kernel⟩
abbrev s_cell_of : Stmt := top 24
theorem sc_cell_of : FnScope ["ends", "found", "top", "bottom", "end"] ["ends", "found"] (defScope s_cell_of) := ⟨rfl, rfl, rfl, by decide +kernel, rfl, by decide +kernel, by decide +kernel⟩
abbrev s_word_of : Stmt := top 27
theorem sc_word_of : FnScope ["rows", "path"] ["rows", "path"] (defScope s_word_of) := ⟨rfl, rfl, rfl, by decide +kernel, rfl, by decide +kernel, by decide +kernel⟩
abbrev s_speed_in : Stmt := top 32
theorem sc_speed_in : FnScope ["region"] ["region"] (defScope s_speed_in) := ⟨rfl, rfl, rfl, by decide +kernel, rfl, by decide +kernel, by decide +kernel⟩
abbrev s__law_begin : Stmt := top 39
theorem sc__law_begin : FnScope ["_law_script", "_law_large", "_law_cell_here"] ["_law_script"] (defScope s__law_begin) := ⟨rfl, rfl, rfl, by decide +kernel, rfl, by decide +kernel, by decide +kernel⟩
abbrev s__law_take : Stmt := top 40
theorem sc__law_take : FnScope ["_law_draw", "_law_size", "_law_cell_here", "_law_found"] ["_law_draw", "_law_size"] (defScope s__law_take) := ⟨rfl, rfl, rfl, by decide +kernel, rfl, by decide +kernel, by decide +kernel⟩
abbrev s__law_fraction : Stmt := top 42
theorem sc__law_fraction : FnScope ["_law_top", "_law_bottom", "_law_one", "_law_other"] ["_law_top", "_law_bottom"] (defScope s__law_fraction) := ⟨rfl, rfl, rfl, by decide +kernel, rfl, by decide +kernel, by decide +kernel⟩
abbrev s__law_lcm : Stmt := top 43
theorem sc__law_lcm : FnScope ["_law_numbers", "_law_found", "_law_number", "_law_one", "_law_other"] ["_law_numbers"] (defScope s__law_lcm) := ⟨rfl, rfl, rfl, by decide +kernel, rfl, by decide +kernel, by decide +kernel⟩
abbrev s__law_cell : Stmt := top 50
theorem sc__law_cell : FnScope ["_law_ends_here", "_law_top", "_law_bottom", "_law_found", "_law_end"] ["_law_ends_here", "_law_top", "_law_bottom"] (defScope s__law_cell) := ⟨rfl, rfl, rfl, by decide +kernel, rfl, by decide +kernel, by decide +kernel⟩
abbrev s__law_told : Stmt := top 52
theorem sc__law_told : FnScope ["_law_rows_here", "_law_path_here"] ["_law_rows_here", "_law_path_here"] (defScope s__law_told) := ⟨rfl, rfl, rfl, by decide +kernel, rfl, by decide +kernel, by decide +kernel⟩
abbrev s__law_spots : Stmt := top 54
theorem sc__law_spots : FnScope ["_law_whole_here", "_law_found", "_law_number"] ["_law_whole_here"] (defScope s__law_spots) := ⟨rfl, rfl, rfl, by decide +kernel, rfl, by decide +kernel, by decide +kernel⟩
abbrev s__law_simplest : Stmt := top 55
theorem sc__law_simplest : FnScope ["_law_some", "_law_pairs", "_law_top", "_law_bottom"] ["_law_some"] (defScope s__law_simplest) := ⟨rfl, rfl, rfl, by decide +kernel, rfl, by decide +kernel, by decide +kernel⟩
abbrev s_is_between : Stmt := top 8
theorem sc_is_between : FnScope ["thing", "low", "high"] ["thing", "low", "high"] (defScope s_is_between) := ⟨rfl, rfl, rfl, by decide +kernel, rfl, by decide +kernel, by decide +kernel⟩
abbrev s_multiple : Stmt := top 10
theorem sc_multiple : FnScope ["numbers", "found", "number"] ["numbers"] (defScope s_multiple) := ⟨rfl, rfl, rfl, by decide +kernel, rfl, by decide +kernel, by decide +kernel⟩
abbrev s_is_speed : Stmt := top 11
theorem sc_is_speed : FnScope ["thing", "part"] ["thing"] (defScope s_is_speed) := ⟨rfl, rfl, rfl, by decide +kernel, rfl, by decide +kernel, by decide +kernel⟩
abbrev s_lowest : Stmt := top 13
theorem sc_lowest : FnScope ["top", "bottom", "shared"] ["top", "bottom"] (defScope s_lowest) := ⟨rfl, rfl, rfl, by decide +kernel, rfl, by decide +kernel, by decide +kernel⟩
abbrev s_simplest_of : Stmt := top 33
theorem sc_simplest_of : FnScope ["regions", "bottom", "top", "region"] ["regions"] (defScope s_simplest_of) := ⟨rfl, rfl, rfl, by decide +kernel, rfl, by decide +kernel, by decide +kernel⟩
abbrev s__law_pick : Stmt := top 41
theorem sc__law_pick : FnScope ["_law_draw", "_law_some"] ["_law_draw", "_law_some"] (defScope s__law_pick) := ⟨rfl, rfl, rfl, by decide +kernel, rfl, by decide +kernel, by decide +kernel⟩
abbrev s__law_seen : Stmt := top 46
theorem sc__law_seen : FnScope ["_law_half_here", "_law_one", "_law_top", "_law_bottom", "_law_below", "_law_gap"] ["_law_half_here", "_law_one"] (defScope s__law_seen) := ⟨rfl, rfl, rfl, by decide +kernel, rfl, by decide +kernel, by decide +kernel⟩
abbrev s__law_whole : Stmt := top 53
theorem sc__law_whole : FnScope ["_law_rows_here", "_law_row"] ["_law_rows_here"] (defScope s__law_whole) := ⟨rfl, rfl, rfl, by decide +kernel, rfl, by decide +kernel, by decide +kernel⟩
abbrev s_need_speed : Stmt := top 12
theorem sc_need_speed : FnScope ["thing"] ["thing"] (defScope s_need_speed) := ⟨rfl, rfl, rfl, by decide +kernel, rfl, by decide +kernel, by decide +kernel⟩
abbrev s_is_half : Stmt := top 14
theorem sc_is_half : FnScope ["thing"] ["thing"] (defScope s_is_half) := ⟨rfl, rfl, rfl, by decide +kernel, rfl, by decide +kernel, by decide +kernel⟩
abbrev s_folded : Stmt := top 15
theorem sc_folded : FnScope ["half", "top", "bottom", "rest"] ["half", "top", "bottom"] (defScope s_folded) := ⟨rfl, rfl, rfl, by decide +kernel, rfl, by decide +kernel, by decide +kernel⟩
abbrev s_are_ends : Stmt := top 22
theorem sc_are_ends : FnScope ["thing", "half", "last", "end"] ["thing", "half"] (defScope s_are_ends) := ⟨rfl, rfl, rfl, by decide +kernel, rfl, by decide +kernel, by decide +kernel⟩
abbrev s_need_small : Stmt := top 31
theorem sc_need_small : FnScope ["halves", "found"] ["halves"] (defScope s_need_small) := ⟨rfl, rfl, rfl, by decide +kernel, rfl, by decide +kernel, by decide +kernel⟩
abbrev s__law_half : Stmt := top 44
theorem sc__law_half : FnScope ["_law_draw", "_law_some"] ["_law_draw"] (defScope s__law_half) := ⟨rfl, rfl, rfl, by decide +kernel, rfl, by decide +kernel, by decide +kernel⟩
abbrev s__law_term : Stmt := top 47
theorem sc__law_term : FnScope ["_law_draw", "_law_letters", "_law_long", "_law_turn"] ["_law_draw"] (defScope s__law_term) := ⟨rfl, rfl, rfl, by decide +kernel, rfl, by decide +kernel, by decide +kernel⟩
abbrev s__law_ends : Stmt := top 48
theorem sc__law_ends : FnScope ["_law_draw", "_law_half_here", "_law_some", "_law_turn"] ["_law_draw", "_law_half_here"] (defScope s__law_ends) := ⟨rfl, rfl, rfl, by decide +kernel, rfl, by decide +kernel, by decide +kernel⟩
abbrev s__law_path : Stmt := top 51
theorem sc__law_path : FnScope ["_law_rows_here", "_law_one", "_law_path_here", "_law_sort", "_law_half_here", "_law_ends_here", "_law_goals", "_law_top", "_law_bottom"] ["_law_rows_here", "_law_one"] (defScope s__law_path) := ⟨rfl, rfl, rfl, by decide +kernel, rfl, by decide +kernel, by decide +kernel⟩
abbrev s__law_taken : Stmt := top 56
theorem sc__law_taken : FnScope ["_law_rows_here", "_law_path_here", "_law_one", "_law_found", "_law_at", "_law_top", "_law_bottom"] ["_law_rows_here", "_law_path_here", "_law_one"] (defScope s__law_taken) := ⟨rfl, rfl, rfl, by decide +kernel, rfl, by decide +kernel, by decide +kernel⟩
abbrev s_is_row : Stmt := top 23
theorem sc_is_row : FnScope ["thing", "many", "goal"] ["thing", "many"] (defScope s_is_row) := ⟨rfl, rfl, rfl, by decide +kernel, rfl, by decide +kernel, by decide +kernel⟩
abbrev s_goal_of : Stmt := top 25
theorem sc_goal_of : FnScope ["row", "top", "bottom"] ["row", "top", "bottom"] (defScope s_goal_of) := ⟨rfl, rfl, rfl, by decide +kernel, rfl, by decide +kernel, by decide +kernel⟩
abbrev s_taken_by : Stmt := top 36
theorem sc_taken_by : FnScope ["rows", "path", "top", "bottom", "steps", "at"] ["rows", "path", "top", "bottom"] (defScope s_taken_by) := ⟨rfl, rfl, rfl, by decide +kernel, rfl, by decide +kernel, by decide +kernel⟩
abbrev s__law_halves : Stmt := top 45
theorem sc__law_halves : FnScope ["_law_draw", "_law_many", "_law_most", "_law_found", "_law_turn", "_law_half_here"] ["_law_draw", "_law_many", "_law_most"] (defScope s__law_halves) := ⟨rfl, rfl, rfl, by decide +kernel, rfl, by decide +kernel, by decide +kernel⟩
abbrev s_path_of : Stmt := top 26
theorem sc_path_of : FnScope ["rows", "top", "bottom", "path", "at"] ["rows", "top", "bottom"] (defScope s_path_of) := ⟨rfl, rfl, rfl, by decide +kernel, rfl, by decide +kernel, by decide +kernel⟩
abbrev s_Program___init__ : Stmt := inClass (top 28) 0
theorem sc_Program___init__ : FnScope ["self", "rows", "at", "row"] ["self", "rows"] (defScope s_Program___init__) := ⟨rfl, rfl, rfl, by decide +kernel, rfl, by decide +kernel, by decide +kernel⟩
abbrev s__law_rows : Stmt := top 49
theorem sc__law_rows : FnScope ["_law_draw", "_law_most_of", "_law_halves_here", "_law_found", "_law_many", "_law_at", "_law_half_here", "_law_ends_here", "_law_goals", "_law_turn", "_law_later"] ["_law_draw", "_law_most_of"] (defScope s__law_rows) := ⟨rfl, rfl, rfl, by decide +kernel, rfl, by decide +kernel, by decide +kernel⟩
abbrev s_Program___call__ : Stmt := inClass (top 28) 5
theorem sc_Program___call__ : FnScope ["self", "speed"] ["self", "speed"] (defScope s_Program___call__) := ⟨rfl, rfl, rfl, by decide +kernel, rfl, by decide +kernel, by decide +kernel⟩
abbrev s_regions_by_path : Stmt := top 34
theorem sc_regions_by_path : FnScope ["program", "whole", "found", "region", "top", "bottom"] ["program"] (defScope s_regions_by_path) := ⟨rfl, rfl, rfl, by decide +kernel, rfl, by decide +kernel, by decide +kernel⟩
abbrev s_most_looks : Stmt := top 35
theorem sc_most_looks : FnScope ["program", "found", "many", "regions", "path", "region"] ["program"] (defScope s_most_looks) := ⟨rfl, rfl, rfl, by decide +kernel, rfl, by decide +kernel, by decide +kernel⟩
abbrev s_untaken : Stmt := top 37
theorem sc_untaken : FnScope ["program", "taken", "path", "regions", "region", "top", "bottom", "pair", "found", "at", "row", "cell"] ["program"] (defScope s_untaken) := ⟨rfl, rfl, rfl, by decide +kernel, rfl, by decide +kernel, by decide +kernel⟩
abbrev s_law : Stmt := top 57
theorem sc_law : FnScope ["_law_script", "_law_draw", "_law_chain", "_law_turn", "_law_table", "_law_made", "_law_counts", "_law_taken_here", "_law_rounds", "_law_one", "_law_path_here", "_law_pair", "_law_many", "_law_due", "_law_left", "_law_at", "_law_row", "_law_cells", "_law_found", "_law_cell_here"] ["_law_script"] (defScope s_law) := ⟨rfl, rfl, rfl, by decide +kernel, rfl, by decide +kernel, by decide +kernel⟩
abbrev s_Program_halves : Stmt := inClass (top 28) 2
theorem sc_Program_halves : FnScope ["self"] ["self"] (defScope s_Program_halves) := ⟨rfl, rfl, rfl, by decide +kernel, rfl, by decide +kernel, by decide +kernel⟩
abbrev s_Program_rows : Stmt := inClass (top 28) 1
theorem sc_Program_rows : FnScope ["self"] ["self"] (defScope s_Program_rows) := ⟨rfl, rfl, rfl, by decide +kernel, rfl, by decide +kernel, by decide +kernel⟩
abbrev s_BadProgram___init__ : Stmt := inClass (top 4) 0
theorem iw_BadProgram : InitW s_BadProgram___init__ "BadProgram.__init__" "row" "row" := ⟨_, _, _, _, _, _, _, _, _, _, _, _, _, rfl, rfl, rfl, fun _ _ _ _ _ _ _ _ _ => rfl, rfl, rfl, rfl, rfl, by decide +kernel, rfl, rfl, rfl, by decide, by decide, fun _ _ _ _ => rfl, fun _ _ _ _ => rfl, fun _ _ _ _ => rfl, _, fun _ _ _ _ => rfl⟩
abbrev s_TooGreat___init__ : Stmt := inClass (top 3) 0
theorem iw_TooGreat : InitW s_TooGreat___init__ "TooGreat.__init__" "most" "most" := ⟨_, _, _, _, _, _, _, _, _, _, _, _, _, rfl, rfl, rfl, fun _ _ _ _ _ _ _ _ _ => rfl, rfl, rfl, rfl, rfl, by decide +kernel, rfl, rfl, rfl, by decide, by decide, fun _ _ _ _ => rfl, fun _ _ _ _ => rfl, fun _ _ _ _ => rfl, _, fun _ _ _ _ => rfl⟩
structure Ad where
  (is_integer divisor is_word cell_of word_of speed_in _law_begin _law_take _law_fraction _law_lcm _law_cell _law_told _law_spots _law_simplest is_between multiple is_speed lowest simplest_of _law_pick _law_seen _law_whole need_speed is_half folded are_ends need_small _law_half _law_term _law_ends _law_path _law_taken is_row goal_of taken_by _law_halves path_of Program___init__ _law_rows Program___call__ regions_by_path most_looks untaken law Program_halves Program_rows : Addr × FuncData)
structure Txt (K : PySem.W.Frag) (mg : Str → Option Value) (P : Program) (C : Cl) (A : Ad) : Prop where
  z_abs : mg "abs" = none
  z_all : mg "all" = none
  z_any : mg "any" = none
  z_bool : mg "bool" = none
  z_divmod : mg "divmod" = none
  z_enumerate : mg "enumerate" = none
  z_int : mg "int" = none
  z_isinstance : mg "isinstance" = none
  z_len : mg "len" = none
  z_list : mg "list" = none
  z_max : mg "max" = none
  z_min : mg "min" = none
  z_range : mg "range" = none
  z_repr : mg "repr" = none
  z_set : mg "set" = none
  z_sorted : mg "sorted" = none
  z_str : mg "str" = none
  z_sum : mg "sum" = none
  z_super : mg "super" = none
  z_tuple : mg "tuple" = none
  c_GREATEST : ∃ t, mg "GREATEST" = some (.int 5040 t)
  c_GREATEST_HALF : ∃ t, mg "GREATEST_HALF" = some (.int 1000 t)
  c_LETTERS : ∃ t, mg "LETTERS" = some (.str "abcdefghijklmnopqrstuvwxyz" t)
  c_LONGEST_WORD : ∃ t, mg "LONGEST_WORD" = some (.int 8 t)
  c_MOST_ENDS : ∃ t, mg "MOST_ENDS" = some (.int 12 t)
  c_MOST_ROWS : ∃ t, mg "MOST_ROWS" = some (.int 20 t)
  x_BadSpeed : ExcTxt K mg "BadSpeed" C.BadSpeed
  xa_BadProgram : ExaTxt P K mg "BadProgram" C.BadProgram "row"
  xa_TooGreat : ExaTxt P K mg "TooGreat" C.TooGreat "most"
  cls_Program : ClsT K mg "Program" C.Program
  na_Program_p_halves : NoAttr K C.Program "p_halves"
  na_Program_p_rows : NoAttr K C.Program "p_rows"
  is_integer : DefT K mg "is_integer" s_is_integer ["thing"] A.is_integer.1 A.is_integer.2
  divisor : DefT K mg "divisor" s_divisor ["one", "other"] A.divisor.1 A.divisor.2
  is_word : DefT K mg "is_word" s_is_word ["thing"] A.is_word.1 A.is_word.2
  cell_of : DefT K mg "cell_of" s_cell_of ["ends", "found"] A.cell_of.1 A.cell_of.2
  word_of : DefT K mg "word_of" s_word_of ["rows", "path"] A.word_of.1 A.word_of.2
  speed_in : DefT K mg "speed_in" s_speed_in ["region"] A.speed_in.1 A.speed_in.2
  _law_begin : DefT K mg "_law_begin" s__law_begin ["_law_script"] A._law_begin.1 A._law_begin.2
  _law_take : DefT K mg "_law_take" s__law_take ["_law_draw", "_law_size"] A._law_take.1 A._law_take.2
  _law_fraction : DefT K mg "_law_fraction" s__law_fraction ["_law_top", "_law_bottom"] A._law_fraction.1 A._law_fraction.2
  _law_lcm : DefT K mg "_law_lcm" s__law_lcm ["_law_numbers"] A._law_lcm.1 A._law_lcm.2
  _law_cell : DefT K mg "_law_cell" s__law_cell ["_law_ends_here", "_law_top", "_law_bottom"] A._law_cell.1 A._law_cell.2
  _law_told : DefT K mg "_law_told" s__law_told ["_law_rows_here", "_law_path_here"] A._law_told.1 A._law_told.2
  _law_spots : DefT K mg "_law_spots" s__law_spots ["_law_whole_here"] A._law_spots.1 A._law_spots.2
  _law_simplest : DefT K mg "_law_simplest" s__law_simplest ["_law_some"] A._law_simplest.1 A._law_simplest.2
  is_between : DefT K mg "is_between" s_is_between ["thing", "low", "high"] A.is_between.1 A.is_between.2
  multiple : DefT K mg "multiple" s_multiple ["numbers"] A.multiple.1 A.multiple.2
  is_speed : DefT K mg "is_speed" s_is_speed ["thing"] A.is_speed.1 A.is_speed.2
  lowest : DefT K mg "lowest" s_lowest ["top", "bottom"] A.lowest.1 A.lowest.2
  simplest_of : DefT K mg "simplest_of" s_simplest_of ["regions"] A.simplest_of.1 A.simplest_of.2
  _law_pick : DefT K mg "_law_pick" s__law_pick ["_law_draw", "_law_some"] A._law_pick.1 A._law_pick.2
  _law_seen : DefT K mg "_law_seen" s__law_seen ["_law_half_here", "_law_one"] A._law_seen.1 A._law_seen.2
  _law_whole : DefT K mg "_law_whole" s__law_whole ["_law_rows_here"] A._law_whole.1 A._law_whole.2
  need_speed : DefT K mg "need_speed" s_need_speed ["thing"] A.need_speed.1 A.need_speed.2
  is_half : DefT K mg "is_half" s_is_half ["thing"] A.is_half.1 A.is_half.2
  folded : DefT K mg "folded" s_folded ["half", "top", "bottom"] A.folded.1 A.folded.2
  are_ends : DefT K mg "are_ends" s_are_ends ["thing", "half"] A.are_ends.1 A.are_ends.2
  need_small : DefT K mg "need_small" s_need_small ["halves"] A.need_small.1 A.need_small.2
  _law_half : DefT K mg "_law_half" s__law_half ["_law_draw"] A._law_half.1 A._law_half.2
  _law_term : DefT K mg "_law_term" s__law_term ["_law_draw"] A._law_term.1 A._law_term.2
  _law_ends : DefT K mg "_law_ends" s__law_ends ["_law_draw", "_law_half_here"] A._law_ends.1 A._law_ends.2
  _law_path : DefT K mg "_law_path" s__law_path ["_law_rows_here", "_law_one"] A._law_path.1 A._law_path.2
  _law_taken : DefT K mg "_law_taken" s__law_taken ["_law_rows_here", "_law_path_here", "_law_one"] A._law_taken.1 A._law_taken.2
  is_row : DefT K mg "is_row" s_is_row ["thing", "many"] A.is_row.1 A.is_row.2
  goal_of : DefT K mg "goal_of" s_goal_of ["row", "top", "bottom"] A.goal_of.1 A.goal_of.2
  taken_by : DefT K mg "taken_by" s_taken_by ["rows", "path", "top", "bottom"] A.taken_by.1 A.taken_by.2
  _law_halves : DefT K mg "_law_halves" s__law_halves ["_law_draw", "_law_many", "_law_most"] A._law_halves.1 A._law_halves.2
  path_of : DefT K mg "path_of" s_path_of ["rows", "top", "bottom"] A.path_of.1 A.path_of.2
  Program___init__ : MethT K C.Program "__init__" "Program.__init__" s_Program___init__ ["self", "rows"] A.Program___init__.1 A.Program___init__.2
  _law_rows : DefT K mg "_law_rows" s__law_rows ["_law_draw", "_law_most_of"] A._law_rows.1 A._law_rows.2
  Program___call__ : MethT K C.Program "__call__" "Program.__call__" s_Program___call__ ["self", "speed"] A.Program___call__.1 A.Program___call__.2
  regions_by_path : DefT K mg "regions_by_path" s_regions_by_path ["program"] A.regions_by_path.1 A.regions_by_path.2
  most_looks : DefT K mg "most_looks" s_most_looks ["program"] A.most_looks.1 A.most_looks.2
  untaken : DefT K mg "untaken" s_untaken ["program"] A.untaken.1 A.untaken.2
  law : DefT K mg "law" s_law ["_law_script"] A.law.1 A.law.2
  pr_Program_halves : PropT K C.Program "halves" "Program.halves" s_Program_halves A.Program_halves.1 A.Program_halves.2
  pr_Program_rows : PropT K C.Program "rows" "Program.rows" s_Program_rows A.Program_rows.1 A.Program_rows.2
section
variable {P : Program} {w : World} {K : PySem.W.Frag} {mg : Str → Option Value} {base : Heap} {C : Cl} {A : Ad}
theorem ok_is_integer (T : Txt K mg P C A) : FnG P w K mg base 1 A.is_integer.1 A.is_integer.2 ["thing"] (toSp K 1 (sp_is_integer C)) :=
  Fun.pok T.is_integer.f sc_is_integer rfl (sh_is_integer C) fun cdv A' outer s H E hr hG =>
    (dss_one (ds_ret (de_and (de_isi "int" (by decide) rfl T.z_isinstance rfl T.z_int (by decide +kernel) (do_of (dv 0))) (de_bone (de_not (de_isi "bool" (by decide) rfl T.z_isinstance rfl T.z_bool (by decide +kernel) (do_of (dv 0))))))))
theorem ok_divisor (T : Txt K mg P C A) : FnG P w K mg base 1 A.divisor.1 A.divisor.2 ["one", "other"] (toSp K 2 (sp_divisor C)) :=
  Fun.pok T.divisor.f sc_divisor rfl (sh_divisor C) fun cdv A' outer s H E hr hG =>
    (dss_cons (ds_while (passes_of rfl) (dt_gt (do_of (dv 1)) (do_of de_int)) (dss_one (ds_par 0 1 rfl sc_divisor.nd (da_cons (dv 1) (da_cons (de_mod (do_of (dv 0)) (do_of (dv 1))) da_nil)))))
      (dss_one (ds_ret (dv 0))))
theorem ok_is_word (T : Txt K mg P C A) : FnG P w K mg base 1 A.is_word.1 A.is_word.2 ["thing"] (toSp K 1 (sp_is_word C)) :=
  Fun.pok T.is_word.f sc_is_word rfl (sh_is_word C) fun cdv A' outer s H E hr hG =>
    (dss_cons (ds_if (DW.dt (dw_or (dt_not (dt_val (de_isi "str" (by decide) rfl T.z_isinstance rfl T.z_str (by decide +kernel) (do_of (dv 0))))) (dw_or1 (dt_not (dt_ch op_le op_le (do_of de_int) (do_of (de_len rfl T.z_len (do_of (dv 0)))) (do_of (de_gintE rfl T.c_LONGEST_WORD))))))) (dss_one (ds_ret de_bl)) dss_nil)
      (dss_one (ds_ret (de_all rfl rfl T.z_all (do_of (de_l (dl_comp rfl sc_is_word.nd (own := [("letter", 1)]) (di_str (dv 0)) (blkOk_by rfl) (fun _ _ _ _ _ => (dg_nm 1 sc_is_word.nd)) (fun _ _ _ _ _ => dts_nil) (fun _ _ _ _ _ => (de_inT (do_of (dv 1)) (do_of (de_gstrE rfl T.c_LETTERS)))))))))))
theorem ok_cell_of (T : Txt K mg P C A) : FnG P w K mg base 1 A.cell_of.1 A.cell_of.2 ["ends", "found"] (toSp K 2 (sp_cell_of C)) :=
  Fun.pok T.cell_of.f sc_cell_of rfl (sh_cell_of C) fun cdv A' outer s H E hr hG =>
    (dss_cons (ds_asg (dv 1) (dg_tup rfl (dgs_cons (dg_nm 2 sc_cell_of.nd) (dgs_cons (dg_nm 3 sc_cell_of.nd) dgs_nil))))
      (dss_one (ds_ret (de_sum rfl rfl T.z_sum (do_of (de_l (dl_comp rfl sc_cell_of.nd (own := [("end", 4)]) (di_any (dv 0)) (blkOk_by rfl) (fun _ _ _ _ _ => (dg_nm 4 sc_cell_of.nd)) (fun _ _ _ _ _ => dts_nil) (fun _ _ _ _ _ => (de_add (do_of (de_intc rfl T.z_int (do_of (de_ge (do_of (dv 2)) (do_of (de_mul (do_of (dv 4)) (do_of (dv 3)))))))) (do_of (de_intc rfl T.z_int (do_of (de_gt (do_of (dv 2)) (do_of (de_mul (do_of (dv 4)) (do_of (dv 3)))))))))))))))))
theorem ok_word_of (T : Txt K mg P C A) : FnG P w K mg base 1 A.word_of.1 A.word_of.2 ["rows", "path"] (toSp K 2 (sp_word_of C)) :=
  Fun.pok T.word_of.f sc_word_of rfl (sh_word_of C) fun cdv A' outer s H E hr hG =>
    (dss_one (ds_ret (de_ife (dt_eq hr.units (do_of (de_ix (do_of (de_ix (do_of (dv 0)) (do_of (de_ix (do_of (dv 1)) (do_of (de_neg (do_of de_int))))))) (do_of de_int))) (do_of de_str)) (de_ix (do_of (de_ix (do_of (dv 0)) (do_of (de_ix (do_of (dv 1)) (do_of (de_neg (do_of de_int))))))) (do_of de_int)) de_non)))
theorem ok_speed_in (T : Txt K mg P C A) : FnG P w K mg base 1 A.speed_in.1 A.speed_in.2 ["region"] (toSp K 1 (sp_speed_in C)) :=
  Fun.pok T.speed_in.f sc_speed_in rfl (sh_speed_in C) fun cdv A' outer s H E hr hG =>
    (dss_one (ds_ret (de_ife (dt_eq hr.units (do_of (de_mod (do_of (dv 0)) (do_of de_int))) (do_of de_int)) (de_tup (da_cons (de_div (do_of (dv 0)) (do_of de_int)) (da_cons de_int da_nil))) (de_tup (da_cons (dv 0) (da_cons de_int da_nil))))))
theorem ok__law_begin (T : Txt K mg P C A) : FnG P w K mg base 1 A._law_begin.1 A._law_begin.2 ["_law_script"] (toSp K 1 sp_begin) :=
  Fun.pok T._law_begin.f sc__law_begin rfl sh_begin fun cdv A' outer s H E hr hG =>
    (dss_cons (ds_setCO 1 rfl sc__law_begin.nd (sw_true rfl rfl rfl (by decide +kernel)) (own := [("_law_cell_here", 2)]) (di_list (dv 0)) (blkOk_by rfl) (fun _ _ _ _ _ => (dg_nm 2 sc__law_begin.nd)) (fun _ _ _ _ _ => (dts_one (dt_ge (do_of (de_abs rfl T.z_abs (do_of (dv 2)))) (do_of (de_pow (do_of de_int) (do_of de_int)))))) (fun _ _ _ _ _ => (de_abs rfl T.z_abs (do_of (dv 2))))) (dss_one (ds_retDraw (X := cxOf (L2.CX P w) P w K mg base ["_law_script", "_law_large", "_law_cell_here"] "_law_begin" (defScope s__law_begin) _ cdv A' outer s H E) rfl rfl (Or.inl rfl) (Or.inl rfl) (by decide) (by decide) (by decide) (by decide) rfl T.z_list)))
theorem ok__law_take (T : Txt K mg P C A) : FnG P w K mg base 1 A._law_take.1 A._law_take.2 ["_law_draw", "_law_size"] (toSp K 2 sp_take) :=
  Fun.gok T._law_take.f sc__law_take (fun vs H Q E h => toSp_len h) fun cdv A' outer s H vs Q E hr hG h => ⟨rdTake K,
    (pss_cons (ps_if (L2.PW.pt (pw_and (pt_cmpR op_eq (dg0 hr "rest") pe_int (nomark _)) (pw_and1 (pt_cmpR (op_neD hr.units) (dg0 hr "large") (pe_lst pa_nil) (nomark _)))))
      (pss_one (ps_dput (hu_of hr) (pv 0) pe_str (pe_bm PySem.F.plainAttrs_list PySem.F.slot_list_pop PySem.F.type_list_pop mt_popAt (dg0 hr "large") (pa_cons pe_int pa_nil)) rfl))
      (pss_one (ps_if (pt_cmpR op_eq (dg0 hr "rest") pe_int (nomark _))
        (pss_cons (ps_dput (hu_of hr) (pv 0) pe_str (pe_op op_add (dg0 hr "turn") pe_int) rfl)
        (pss_cons (ps_for (passes_of rfl) rfl (pi_list (pe_op op_cat (pe_lst (pa_cons (dg0 hr "turn") pa_nil)) (dg0 hr "cells"))) (pg_name (i := 2) sc__law_take.nd rfl (Or.inl rfl))
          (pss_one (ps_dput (hu_of hr) (pv 0) pe_str (pe_op op_mod (pe_callTy call_int1 rfl T.z_int (by decide +kernel) (pa_cons (pe_op op_add (pe_op op_add (pe_op op_mul (dg0 hr "mix") pe_int) (pe_op op_mul (pv 2) pe_int)) pe_int) pa_nil) (by decide) (by decide)) pe_int) rfl)))
        (pss_one (ps_dput (hu_of hr) (pv 0) pe_str (pe_op op_mod (pe_callTy call_int1 rfl T.z_int (by decide +kernel) (pa_cons (pe_op op_pow (dg0 hr "mix") pe_int) pa_nil) (by decide) (by decide)) pe_int) rfl))))
        pss_nil)))
    (pss_cons (ps_asg (pe_callB call_divmodW rfl T.z_divmod (by decide +kernel) (pa_cons (dg0 hr "rest") (pa_cons (pv 1) pa_nil)) (by decide) (by decide)) (pg_tup rfl (pgs_cons (pg_sub (pv 0) pe_str (set_dict (hu_of hr))) (pgs_cons (pg_name (i := 3) sc__law_take.nd rfl (Or.inl rfl)) pgs_nil))))
    (pss_one (ps_ret (pv 3))))), take_run rfl h⟩
theorem ok__law_fraction (T : Txt K mg P C A) : FnG P w K mg base 1 A._law_fraction.1 A._law_fraction.2 ["_law_top", "_law_bottom"] (toSp K 2 sp_frac2) :=
  Fun.pok T._law_fraction.f sc__law_fraction rfl sh_frac2 fun cdv A' outer s H E hr hG =>
    (dss_cons (ds_par 2 3 rfl sc__law_fraction.nd (da_cons (dv 0) (da_cons (dv 1) da_nil)))
      (dss_cons (ds_while (passes_of rfl) (dt_gt (do_of (dv 3)) (do_of de_int)) (dss_one (ds_par 2 3 rfl sc__law_fraction.nd (da_cons (dv 3) (da_cons (de_mod (do_of (dv 2)) (do_of (dv 3))) da_nil)))))
      (dss_one (ds_ret (de_tup (da_cons (de_div (do_of (dv 0)) (do_of (dv 2))) (da_cons (de_div (do_of (dv 1)) (do_of (dv 2))) da_nil)))))))
theorem ok__law_lcm (T : Txt K mg P C A) : FnG P w K mg base 1 A._law_lcm.1 A._law_lcm.2 ["_law_numbers"] (toSp K 1 (sp__law_lcmW C)) :=
  Fun.pok T._law_lcm.f sc__law_lcm rfl (sh__law_lcmW C) fun cdv A' outer s H E hr hG =>
    (dss_cons (ds_set 1 sc__law_lcm.nd de_int)
      (dss_cons (ds_for (passes_of rfl) rfl (di_any (dv 0)) (dg_nm 2 sc__law_lcm.nd) (dss_cons (ds_par 3 4 rfl sc__law_lcm.nd (da_cons (dv 1) (da_cons (dv 2) da_nil)))
      (dss_cons (ds_while (passes_of rfl) (dt_gt (do_of (dv 4)) (do_of de_int)) (dss_one (ds_par 3 4 rfl sc__law_lcm.nd (da_cons (dv 4) (da_cons (de_mod (do_of (dv 3)) (do_of (dv 4))) da_nil)))))
      (dss_one (ds_set 1 sc__law_lcm.nd (de_mul (do_of (de_div (do_of (dv 1)) (do_of (dv 3)))) (do_of (dv 2))))))))
      (dss_one (ds_ret (dv 1)))))
theorem ok__law_cell (T : Txt K mg P C A) : FnG P w K mg base 1 A._law_cell.1 A._law_cell.2 ["_law_ends_here", "_law_top", "_law_bottom"] (toSp K 3 (sp__law_cell C)) :=
  Fun.pok T._law_cell.f sc__law_cell rfl (sh__law_cell C) fun cdv A' outer s H E hr hG =>
    (dss_cons (ds_set 3 sc__law_cell.nd de_int)
      (dss_cons (ds_for (passes_of rfl) rfl (di_any (dv 0)) (dg_nm 4 sc__law_cell.nd) (dss_cons (ds_if (dt_eq hr.units (do_of (dv 1)) (do_of (de_mul (do_of (dv 4)) (do_of (dv 2))))) (dss_one (ds_ret (de_add (do_of (dv 3)) (do_of de_int)))) dss_nil)
      (dss_cons (ds_if (dt_lt (do_of (dv 1)) (do_of (de_mul (do_of (dv 4)) (do_of (dv 2))))) (dss_one (ds_ret (dv 3))) dss_nil)
      (dss_one (ds_set 3 sc__law_cell.nd (de_add (do_of (dv 3)) (do_of de_int)))))))
      (dss_one (ds_ret (dv 3)))))
theorem ok__law_told (T : Txt K mg P C A) : FnG P w K mg base 1 A._law_told.1 A._law_told.2 ["_law_rows_here", "_law_path_here"] (toSp K 2 (sp_word_of C)) :=
  Fun.pok T._law_told.f sc__law_told rfl (sh_word_of C) fun cdv A' outer s H E hr hG =>
    (dss_one (ds_ret (de_ife (dt_eq hr.units (do_of (de_ix (do_of (de_ix (do_of (dv 0)) (do_of (de_ix (do_of (dv 1)) (do_of (de_neg (do_of de_int))))))) (do_of de_int))) (do_of de_str)) (de_ix (do_of (de_ix (do_of (dv 0)) (do_of (de_ix (do_of (dv 1)) (do_of (de_neg (do_of de_int))))))) (do_of de_int)) de_non)))
theorem ok__law_spots (T : Txt K mg P C A) : FnG P w K mg base 1 A._law_spots.1 A._law_spots.2 ["_law_whole_here"] (toSp K 1 (sp__law_spots C)) :=
  Fun.pok T._law_spots.f sc__law_spots rfl (sh__law_spots C) fun cdv A' outer s H E hr hG =>
    (dss_cons (ds_set 1 sc__law_spots.nd (de_l (dl_lst (da_cons (de_tup (da_cons de_int (da_cons de_int da_nil))) da_nil))))
      (dss_cons (ds_for (passes_of rfl) rfl (di_r1 rfl T.z_range (dv 0)) (dg_nm 2 sc__law_spots.nd) (dss_one (ds_set 1 sc__law_spots.nd (de_add (do_of (dv 1)) (do_of (de_l (dl_lst (da_cons (de_tup (da_cons (de_add (do_of (de_mul (do_of de_int) (do_of (dv 2)))) (do_of de_int)) (da_cons de_int da_nil))) (da_cons (de_tup (da_cons (de_add (do_of (dv 2)) (do_of de_int)) (da_cons de_int da_nil))) da_nil)))))))))
      (dss_one (ds_ret (dv 1)))))
theorem ok__law_simplest (T : Txt K mg P C A) : FnG P w K mg base 1 A._law_simplest.1 A._law_simplest.2 ["_law_some"] (toSp K 1 (sp__law_simplest C)) :=
  Fun.pok T._law_simplest.f sc__law_simplest rfl (sh__law_simplest C) fun cdv A' outer s H E hr hG =>
    (dss_cons (ds_set 1 sc__law_simplest.nd (de_l (dl_sorted (hu_in2 hr) rfl T.z_sorted (do_of (de_l (dl_comp rfl sc__law_simplest.nd (own := [("_law_top", 2), ("_law_bottom", 3)]) (di_any (dv 0)) (blkOk_by rfl) (fun _ _ _ _ _ => (dg_tup rfl (dgs_cons (dg_nm 2 sc__law_simplest.nd) (dgs_cons (dg_nm 3 sc__law_simplest.nd) dgs_nil)))) (fun _ _ _ _ _ => dts_nil) (fun _ _ _ _ _ => (de_tup (da_cons (dv 3) (da_cons (dv 2) da_nil))))))))))
      (dss_one (ds_ret (de_ife (dt_ne hr.units (do_of (dv 1)) (do_of (de_l (dl_lst da_nil)))) (de_tup (da_cons (de_ix (do_of (de_ix (do_of (dv 1)) (do_of de_int))) (do_of de_int)) (da_cons (de_ix (do_of (de_ix (do_of (dv 1)) (do_of de_int))) (do_of de_int)) da_nil))) de_non))))
theorem ok_is_between (T : Txt K mg P C A) : FnG P w K mg base 2 A.is_between.1 A.is_between.2 ["thing", "low", "high"] (toSp K 3 (sp_is_between C)) :=
  Fun.pok T.is_between.f sc_is_between rfl (sh_is_between C) fun cdv A' outer s H E hr hG =>
    (dss_one (ds_ret (de_and (de_call (ok_is_integer T) rfl (fun _ _ _ _ h => ar1_len h) (hr.mono (by decide)) hG rfl T.is_integer.g T.is_integer.f.kp T.is_integer.b (takes_of rfl rfl rfl rfl) (da_cons (dv 0) da_nil)) (de_bone (de_ch op_le op_le (do_of (dv 1)) (do_of (dv 0)) (do_of (dv 2)))))))
theorem ok_multiple (T : Txt K mg P C A) : FnG P w K mg base 2 A.multiple.1 A.multiple.2 ["numbers"] (toSp K 1 (sp_multipleW C)) :=
  Fun.pok T.multiple.f sc_multiple rfl (sh_multipleW C) fun cdv A' outer s H E hr hG =>
    (dss_cons (ds_set 1 sc_multiple.nd de_int)
      (dss_cons (ds_for (passes_of rfl) rfl (di_any (dv 0)) (dg_nm 2 sc_multiple.nd) (dss_one (ds_set 1 sc_multiple.nd (de_mul (do_of (de_div (do_of (dv 1)) (do_of (de_call (ok_divisor T) rfl (fun _ _ _ _ h => ar2_len h) (hr.mono (by decide)) hG rfl T.divisor.g T.divisor.f.kp T.divisor.b (takes_of rfl rfl rfl rfl) (da_cons (dv 1) (da_cons (dv 2) da_nil)))))) (do_of (dv 2))))))
      (dss_one (ds_ret (dv 1)))))
theorem ok_is_speed (T : Txt K mg P C A) : FnG P w K mg base 2 A.is_speed.1 A.is_speed.2 ["thing"] (toSp K 1 (sp_is_speed C)) :=
  Fun.pok T.is_speed.f sc_is_speed rfl (sh_is_speed C) fun cdv A' outer s H E hr hG =>
    (dss_cons (ds_if (DW.dt (dw_or (dt_not (dt_val (de_isi "tuple" (by decide) rfl T.z_isinstance rfl T.z_tuple (by decide +kernel) (do_of (dv 0))))) (dw_or (dt_ne hr.units (do_of (de_len rfl T.z_len (do_of (dv 0)))) (do_of de_int)) (dw_or1 (dt_not (dt_val (de_all rfl rfl T.z_all (do_of (de_l (dl_comp rfl sc_is_speed.nd (own := [("part", 1)]) (di_tup (dv 0)) (blkOk_by rfl) (fun _ _ _ _ _ => (dg_nm 1 sc_is_speed.nd)) (fun _ _ _ _ _ => dts_nil) (fun _ _ _ _ _ => (de_call (ok_is_integer T) rfl (fun _ _ _ _ h => ar1_len h) (hr.mono (by decide)) hG rfl T.is_integer.g T.is_integer.f.kp T.is_integer.b takes0 (da_cons (dv 1) da_nil))))))))))))) (dss_one (ds_ret de_bl)) dss_nil)
      (dss_one (ds_ret (de_and (de_ge (do_of (de_ix (do_of (dv 0)) (do_of de_int))) (do_of de_int)) (de_and (de_ge (do_of (de_ix (do_of (dv 0)) (do_of de_int))) (do_of de_int)) (de_bone (de_eq hr.units (do_of (de_call (ok_divisor T) rfl (fun _ _ _ _ h => ar2_len h) (hr.mono (by decide)) hG rfl T.divisor.g T.divisor.f.kp T.divisor.b (takes_of rfl rfl rfl rfl) (da_cons (de_ix (do_of (dv 0)) (do_of de_int)) (da_cons (de_ix (do_of (dv 0)) (do_of de_int)) da_nil)))) (do_of de_int))))))))
theorem ok_lowest (T : Txt K mg P C A) : FnG P w K mg base 2 A.lowest.1 A.lowest.2 ["top", "bottom"] (toSp K 2 (sp_lowest C)) :=
  Fun.pok T.lowest.f sc_lowest rfl (sh_lowest C) fun cdv A' outer s H E hr hG =>
    (dss_cons (ds_set 2 sc_lowest.nd (de_call (ok_divisor T) rfl (fun _ _ _ _ h => ar2_len h) (hr.mono (by decide)) hG rfl T.divisor.g T.divisor.f.kp T.divisor.b (takes_of rfl rfl rfl rfl) (da_cons (dv 0) (da_cons (dv 1) da_nil))))
      (dss_one (ds_ret (de_tup (da_cons (de_div (do_of (dv 0)) (do_of (dv 2))) (da_cons (de_div (do_of (dv 1)) (do_of (dv 2))) da_nil))))))
theorem ok_simplest_of (T : Txt K mg P C A) : FnG P w K mg base 2 A.simplest_of.1 A.simplest_of.2 ["regions"] (toSp K 1 (sp_simplest_of C)) :=
  Fun.pok T.simplest_of.f sc_simplest_of rfl (sh_simplest_of C) fun cdv A' outer s H E hr hG =>
    (dss_cons (ds_asg (de_minP (hu9 hr) rfl rfl T.z_min (do_of (de_l (dl_comp rfl sc_simplest_of.nd (own := [("region", 3)]) (di_any (dv 0)) (blkOk_by rfl) (fun _ _ _ _ _ => (dg_nm 3 sc_simplest_of.nd)) (fun _ _ _ _ _ => dts_nil) (fun _ _ _ _ _ => (de_tup (da_cons (de_ix (do_of (de_call (ok_speed_in T) rfl (fun _ _ _ _ h => ar1_len h) (hr.mono (by decide)) hG rfl T.speed_in.g T.speed_in.f.kp T.speed_in.b takes0 (da_cons (dv 3) da_nil))) (do_of de_int)) (da_cons (de_ix (do_of (de_call (ok_speed_in T) rfl (fun _ _ _ _ h => ar1_len h) (hr.mono (by decide)) hG rfl T.speed_in.g T.speed_in.f.kp T.speed_in.b takes0 (da_cons (dv 3) da_nil))) (do_of de_int)) da_nil)))))))) (dg_tup rfl (dgs_cons (dg_nm 1 sc_simplest_of.nd) (dgs_cons (dg_nm 2 sc_simplest_of.nd) dgs_nil))))
      (dss_one (ds_ret (de_tup (da_cons (dv 2) (da_cons (dv 1) da_nil))))))
theorem ok__law_pick (T : Txt K mg P C A) : FnG P w K mg base 2 A._law_pick.1 A._law_pick.2 ["_law_draw", "_law_some"] (toSp K 2 sp_pickX) :=
  Fun.pok T._law_pick.f sc__law_pick rfl sh_pickX fun cdv A' outer s H E hr hG =>
    (dss_one (ds_ret (de_ixX (do_of (dv 1)) (do_of (de_call (ok__law_take T) rfl (fun _ _ _ _ h => ar2_len h) (hr.mono (by decide)) hG rfl T._law_take.g T._law_take.f.kp T._law_take.b (takes_of rfl rfl rfl rfl) (da_cons (dv 0) (da_cons (de_len rfl T.z_len (do_of (dv 1))) da_nil)))))))
theorem ok__law_seen (T : Txt K mg P C A) : FnG P w K mg base 2 A._law_seen.1 A._law_seen.2 ["_law_half_here", "_law_one"] (toSp K 2 (sp__law_seen C)) :=
  Fun.pok T._law_seen.f sc__law_seen rfl (sh__law_seen C) fun cdv A' outer s H E hr hG =>
    (dss_cons (ds_asg (dv 1) (dg_tup rfl (dgs_cons (dg_nm 2 sc__law_seen.nd) (dgs_cons (dg_nm 3 sc__law_seen.nd) dgs_nil))))
      (dss_cons (ds_set 4 sc__law_seen.nd (de_mul (do_of (de_mul (do_of (de_mul (do_of (de_div (do_of (dv 2)) (do_of (de_mul (do_of (de_mul (do_of de_int) (do_of (dv 0)))) (do_of (dv 3)))))) (do_of de_int))) (do_of (dv 0)))) (do_of (dv 3))))
      (dss_cons (ds_set 5 sc__law_seen.nd (de_min2 rfl rfl T.z_min (do_of (de_sub (do_of (dv 2)) (do_of (dv 4)))) (do_of (de_sub (do_of (de_add (do_of (dv 4)) (do_of (de_mul (do_of (de_mul (do_of de_int) (do_of (dv 0)))) (do_of (dv 3)))))) (do_of (dv 2))))))
      (dss_one (ds_ret (de_call (ok__law_fraction T) rfl (fun _ _ _ _ h => ar2_len h) (hr.mono (by decide)) hG rfl T._law_fraction.g T._law_fraction.f.kp T._law_fraction.b (takes_of rfl rfl rfl rfl) (da_cons (dv 5) (da_cons (dv 3) da_nil))))))))
theorem ok__law_whole (T : Txt K mg P C A) : FnG P w K mg base 2 A._law_whole.1 A._law_whole.2 ["_law_rows_here"] (toSp K 1 (sp__law_whole C)) :=
  Fun.pok T._law_whole.f sc__law_whole rfl (sh__law_whole C) fun cdv A' outer s H E hr hG =>
    (dss_one (ds_ret (de_call (ok__law_lcm T) rfl (fun _ _ _ _ h => ar1_len h) (hr.mono (by decide)) hG rfl T._law_lcm.g T._law_lcm.f.kp T._law_lcm.b (takes_of rfl rfl rfl rfl) (da_cons (de_l (dl_comp rfl sc__law_whole.nd (own := [("_law_row", 1)]) (di_any (dv 0)) (blkOk_by rfl) (fun _ _ _ _ _ => (dg_nm 1 sc__law_whole.nd)) (fun _ _ _ _ _ => (dts_one (dt_eq hr.units (do_of (de_ix (do_of (dv 1)) (do_of de_int))) (do_of de_str)))) (fun _ _ _ _ _ => (de_ix (do_of (dv 1)) (do_of de_int))))) da_nil))))
theorem ok_need_speed (T : Txt K mg P C A) : FnG P w K mg base 3 A.need_speed.1 A.need_speed.2 ["thing"] (toSp K 1 (sp_need_speed C)) :=
  Fun.pok T.need_speed.f sc_need_speed rfl (sh_need_speed C) fun cdv A' outer s H E hr hG =>
    (dss_one (ds_if (dt_not (dt_val (de_call (ok_is_speed T) rfl (fun _ _ _ _ h => ar1_len h) (hr.mono (by decide)) hG rfl T.is_speed.g T.is_speed.f.kp T.is_speed.b (takes_of rfl rfl rfl rfl) (da_cons (dv 0) da_nil)))) (dss_one (ds_raise rfl (takes_of rfl rfl rfl rfl) T.x_BadSpeed rfl)) dss_nil))
theorem ok_is_half (T : Txt K mg P C A) : FnG P w K mg base 3 A.is_half.1 A.is_half.2 ["thing"] (toSp K 1 (sp_is_half C)) :=
  Fun.pok T.is_half.f sc_is_half rfl (sh_is_half C) fun cdv A' outer s H E hr hG =>
    (dss_one (ds_ret (de_call (ok_is_between T) rfl (fun _ _ _ _ h => ar3_len h) (hr.mono (by decide)) hG rfl T.is_between.g T.is_between.f.kp T.is_between.b (takes_of rfl rfl rfl rfl) (da_cons (dv 0) (da_cons de_int (da_cons (de_gintE rfl T.c_GREATEST_HALF) da_nil))))))
theorem ok_folded (T : Txt K mg P C A) : FnG P w K mg base 3 A.folded.1 A.folded.2 ["half", "top", "bottom"] (toSp K 3 (sp_folded C)) :=
  Fun.pok T.folded.f sc_folded rfl (sh_folded C) fun cdv A' outer s H E hr hG =>
    (dss_cons (ds_set 3 sc_folded.nd (de_mod (do_of (dv 1)) (do_of (de_mul (do_of (de_mul (do_of de_int) (do_of (dv 0)))) (do_of (dv 2))))))
      (dss_one (ds_ret (de_call (ok_lowest T) rfl (fun _ _ _ _ h => ar2_len h) (hr.mono (by decide)) hG rfl T.lowest.g T.lowest.f.kp T.lowest.b (takes_of rfl rfl rfl rfl) (da_cons (de_min rfl rfl T.z_min (do_of (de_l (dl_lst (da_cons (dv 3) (da_cons (de_sub (do_of (de_mul (do_of (de_mul (do_of de_int) (do_of (dv 0)))) (do_of (dv 2)))) (do_of (dv 3))) da_nil)))))) (da_cons (dv 2) da_nil))))))
theorem ok_are_ends (T : Txt K mg P C A) : FnG P w K mg base 3 A.are_ends.1 A.are_ends.2 ["thing", "half"] (toSp K 2 (sp_are_ends C)) :=
  Fun.pok T.are_ends.f sc_are_ends rfl (sh_are_ends C) fun cdv A' outer s H E hr hG =>
    (dss_cons (ds_if (DW.dt (dw_or (dt_not (dt_val (de_isi "tuple" (by decide) rfl T.z_isinstance rfl T.z_tuple (by decide +kernel) (do_of (dv 0))))) (dw_or1 (dt_gt (do_of (de_len rfl T.z_len (do_of (dv 0)))) (do_of (de_gintE rfl T.c_MOST_ENDS)))))) (dss_one (ds_ret de_bl)) dss_nil)
      (dss_cons (ds_set 2 sc_are_ends.nd (de_neg (do_of de_int)))
      (dss_cons (ds_for (passes_of rfl) rfl (di_any (dv 0)) (dg_nm 3 sc_are_ends.nd) (dss_cons (ds_if (dt_not (dt_val (de_call (ok_is_between T) rfl (fun _ _ _ _ h => ar3_len h) (hr.mono (by decide)) hG rfl T.is_between.g T.is_between.f.kp T.is_between.b (takes_of rfl rfl rfl rfl) (da_cons (dv 3) (da_cons (de_add (do_of (dv 2)) (do_of de_int)) (da_cons (dv 1) da_nil)))))) (dss_one (ds_ret de_bl)) dss_nil)
      (dss_one (ds_set 2 sc_are_ends.nd (dv 3)))))
      (dss_one (ds_ret de_bl)))))
theorem ok_need_small (T : Txt K mg P C A) : FnG P w K mg base 3 A.need_small.1 A.need_small.2 ["halves"] (toSp K 1 (sp_need_small C)) :=
  Fun.pok T.need_small.f sc_need_small rfl (sh_need_small C) fun cdv A' outer s H E hr hG =>
    (dss_cons (ds_set 1 sc_need_small.nd (de_call (ok_multiple T) rfl (fun _ _ _ _ h => ar1_len h) (hr.mono (by decide)) hG rfl T.multiple.g T.multiple.f.kp T.multiple.b (takes_of rfl rfl rfl rfl) (da_cons (dv 0) da_nil)))
      (dss_cons (ds_if (dt_gt (do_of (dv 1)) (do_of (de_gintE rfl T.c_GREATEST))) (dss_one (ds_raiseA (k := 0) rfl (takes_of rfl rfl rfl rfl) T.xa_TooGreat (hr.mono (by decide)) rfl (de_gintE rfl T.c_GREATEST))) dss_nil)
      (dss_one (ds_ret (dv 1)))))
theorem ok__law_half (T : Txt K mg P C A) : FnG P w K mg base 3 A._law_half.1 A._law_half.2 ["_law_draw"] (toSp K 1 (sp__law_half C)) :=
  Fun.pok T._law_half.f sc__law_half rfl (sh__law_half C) fun cdv A' outer s H E hr hG =>
    (dss_cons (ds_set 1 sc__law_half.nd (de_l (dl_lst (da_cons (de_add (do_of de_int) (do_of (de_call (ok__law_take T) rfl (fun _ _ _ _ h => ar2_len h) (hr.mono (by decide)) hG rfl T._law_take.g T._law_take.f.kp T._law_take.b (takes_of rfl rfl rfl rfl) (da_cons (dv 0) (da_cons de_int da_nil))))) (da_cons (de_add (do_of de_int) (do_of (de_call (ok__law_take T) rfl (fun _ _ _ _ h => ar2_len h) (hr.mono (by decide)) hG rfl T._law_take.g T._law_take.f.kp T._law_take.b (takes_of rfl rfl rfl rfl) (da_cons (dv 0) (da_cons de_int da_nil))))) (da_cons (de_call ((ok__law_pick T).wk (fun _ _ _ _ h => pickX_of h)) rfl (fun _ _ _ _ h => ar2_len h) (hr.mono (by decide)) hG rfl T._law_pick.g T._law_pick.f.kp T._law_pick.b (takes_of rfl rfl rfl rfl) (da_cons (dv 0) (da_cons (de_l (dl_lst (da_cons de_int (da_cons de_int (da_cons de_int (da_cons de_int (da_cons de_int (da_cons de_int (da_cons de_int (da_cons de_int da_nil)))))))))) da_nil))) da_nil))))))
      (dss_one (ds_ret (de_call ((ok__law_pick T).wk (fun _ _ _ _ h => pickX_of h)) rfl (fun _ _ _ _ h => ar2_len h) (hr.mono (by decide)) hG rfl T._law_pick.g T._law_pick.f.kp T._law_pick.b (takes_of rfl rfl rfl rfl) (da_cons (dv 0) (da_cons (de_add (do_of (dv 1)) (do_of (de_l (dl_lst (da_cons (de_add (do_of de_int) (do_of (de_call (ok__law_take T) rfl (fun _ _ _ _ h => ar2_len h) (hr.mono (by decide)) hG rfl T._law_take.g T._law_take.f.kp T._law_take.b (takes_of rfl rfl rfl rfl) (da_cons (dv 0) (da_cons de_int da_nil))))) da_nil))))) da_nil))))))
theorem ok__law_term (T : Txt K mg P C A) : FnG P w K mg base 3 A._law_term.1 A._law_term.2 ["_law_draw"] (toSp K 1 (sp__law_term C)) :=
  Fun.pok T._law_term.f sc__law_term rfl (sh__law_term C) fun cdv A' outer s H E hr hG =>
    (dss_cons (ds_set 1 sc__law_term.nd de_str)
      (dss_cons (ds_set 2 sc__law_term.nd (de_join de_str (do_of (de_l (dl_comp rfl sc__law_term.nd (own := [("_law_turn", 3)]) (di_r1 rfl T.z_range (de_add (do_of de_int) (do_of (de_call (ok__law_take T) rfl (fun _ _ _ _ h => ar2_len h) (hr.mono (by decide)) hG rfl T._law_take.g T._law_take.f.kp T._law_take.b (takes_of rfl rfl rfl rfl) (da_cons (dv 0) (da_cons de_int da_nil)))))) (blkOk_by rfl) (fun _ _ _ _ _ => (dg_nm 3 sc__law_term.nd)) (fun _ _ _ _ _ => dts_nil) (fun _ _ _ _ _ => (de_call (ok__law_pick T) rfl (fun _ _ _ _ h => ar2_len h) (hr.mono (by decide)) hG rfl T._law_pick.g T._law_pick.f.kp T._law_pick.b takes0 (da_cons (dv 0) (da_cons (dv 1) da_nil)))))))))
      (dss_one (ds_ret (de_call (ok__law_pick T) rfl (fun _ _ _ _ h => ar2_len h) (hr.mono (by decide)) hG rfl T._law_pick.g T._law_pick.f.kp T._law_pick.b (takes_of rfl rfl rfl rfl) (da_cons (dv 0) (da_cons (de_l (dl_lst (da_cons de_str (da_cons de_str (da_cons de_str (da_cons de_str (da_cons de_str (da_cons (dv 2) da_nil)))))))) da_nil)))))))
theorem ok__law_ends (T : Txt K mg P C A) : FnG P w K mg base 3 A._law_ends.1 A._law_ends.2 ["_law_draw", "_law_half_here"] (toSp K 2 (sp__law_ends C)) :=
  Fun.pok T._law_ends.f sc__law_ends rfl (sh__law_ends C) fun cdv A' outer s H E hr hG =>
    (dss_cons (ds_if (dt_eq hr.units (do_of (de_call (ok__law_take T) rfl (fun _ _ _ _ h => ar2_len h) (hr.mono (by decide)) hG rfl T._law_take.g T._law_take.f.kp T._law_take.b (takes_of rfl rfl rfl rfl) (da_cons (dv 0) (da_cons de_int da_nil)))) (do_of de_int)) (dss_one (ds_ret (de_tupc rfl T.z_tuple (do_of (de_l (dl_lrg1 rfl rfl T.z_list rfl T.z_range (de_add (do_of (de_min2 rfl rfl T.z_min (do_of (dv 1)) (do_of de_int))) (do_of de_int)))))))) dss_nil)
      (dss_cons (ds_setC 2 rfl sc__law_ends.nd (sw_true rfl rfl rfl (by decide +kernel)) (own := [("_law_turn", 3)]) (di_r1 rfl T.z_range (de_call (ok__law_take T) rfl (fun _ _ _ _ h => ar2_len h) (hr.mono (by decide)) hG rfl T._law_take.g T._law_take.f.kp T._law_take.b (takes_of rfl rfl rfl rfl) (da_cons (dv 0) (da_cons de_int da_nil)))) (blkOk_by rfl) (fun _ _ _ _ _ => (dg_nm 3 sc__law_ends.nd)) (fun _ _ _ _ _ => dts_nil) (fun _ _ _ _ _ => (de_call ((ok__law_pick T).wk (fun _ _ _ _ h => pickX_of h)) rfl (fun _ _ _ _ h => ar2_len h) (hr.mono (by decide)) hG rfl T._law_pick.g T._law_pick.f.kp T._law_pick.b takes0 (da_cons (dv 0) (da_cons (de_l (dl_lst (da_cons de_int (da_cons (dv 1) (da_cons (de_call (ok__law_take T) rfl (fun _ _ _ _ h => ar2_len h) (hr.mono (by decide)) hG rfl T._law_take.g T._law_take.f.kp T._law_take.b takes0 (da_cons (dv 0) (da_cons (de_add (do_of (dv 1)) (do_of de_int)) da_nil))) da_nil))))) da_nil)))))
      (dss_one (ds_ret (de_tupc rfl T.z_tuple (do_of (de_l (dl_sortSetL rfl rfl T.z_set rfl T.z_sorted (do_of (dv 2))))))))))
theorem ok__law_path (T : Txt K mg P C A) : FnG P w K mg base 3 A._law_path.1 A._law_path.2 ["_law_rows_here", "_law_one"] (toSp K 2 (sp__law_path C)) :=
  Fun.pok T._law_path.f sc__law_path rfl (sh__law_path C) fun cdv A' outer s H E hr hG =>
    (dss_cons (ds_setO 2 sc__law_path.nd (dl_lst (da_cons de_int da_nil)))
      (dss_cons (ds_while (passes_of rfl) (DW.dt (dw_and (dt_eq hr.units (do_of (de_ix (do_of (de_ix (do_of (dv 0)) (do_of (de_ix (dn 2) (do_of (de_neg (do_of de_int))))))) (do_of de_int))) (do_of de_str)) (dw_and1 (dt_eq hr.units (do_of (de_idxI (dn 2) (do_of (de_ix (dn 2) (do_of (de_neg (do_of de_int))))))) (do_of (de_sub (do_of (de_len rfl T.z_len (dn 2))) (do_of de_int))))))) (dss_cons (ds_asg (de_ix (do_of (dv 0)) (do_of (de_ix (dn 2) (do_of (de_neg (do_of de_int)))))) (dg_tup rfl (dgs_cons (dg_nm 3 sc__law_path.nd) (dgs_cons (dg_nm 4 sc__law_path.nd) (dgs_cons (dg_nm 5 sc__law_path.nd) (dgs_cons (dg_nm 6 sc__law_path.nd) dgs_nil))))))
      (dss_cons (ds_asg (de_call (ok__law_seen T) rfl (fun _ _ _ _ h => ar2_len h) (hr.mono (by decide)) hG rfl T._law_seen.g T._law_seen.f.kp T._law_seen.b (takes_of rfl rfl rfl rfl) (da_cons (dv 4) (da_cons (dv 1) da_nil))) (dg_tup rfl (dgs_cons (dg_nm 7 sc__law_path.nd) (dgs_cons (dg_nm 8 sc__law_path.nd) dgs_nil))))
      (dss_one (ds_app 2 (de_ix (do_of (dv 6)) (do_of (de_call (ok__law_cell T) rfl (fun _ _ _ _ h => ar3_len h) (hr.mono (by decide)) hG rfl T._law_cell.g T._law_cell.f.kp T._law_cell.b (takes_of rfl rfl rfl rfl) (da_cons (dv 5) (da_cons (dv 7) (da_cons (dv 8) da_nil)))))))))))
      (dss_one (ds_ret (de_tupc rfl T.z_tuple (dn 2))))))
theorem ok__law_taken (T : Txt K mg P C A) : FnG P w K mg base 3 A._law_taken.1 A._law_taken.2 ["_law_rows_here", "_law_path_here", "_law_one"] (toSp K 3 (sp__law_taken C)) :=
  Fun.pok T._law_taken.f sc__law_taken rfl (sh__law_taken C) fun cdv A' outer s H E hr hG =>
    (dss_cons (ds_setO 3 sc__law_taken.nd (dl_lst da_nil))
      (dss_cons (ds_for (passes_of rfl) rfl (di_any (dv 1)) (dg_nm 4 sc__law_taken.nd) (dss_one (ds_if (dt_eq hr.units (do_of (de_ix (do_of (de_ix (do_of (dv 0)) (do_of (dv 4)))) (do_of de_int))) (do_of de_str)) (dss_cons (ds_asg (de_call (ok__law_seen T) rfl (fun _ _ _ _ h => ar2_len h) (hr.mono (by decide)) hG rfl T._law_seen.g T._law_seen.f.kp T._law_seen.b (takes_of rfl rfl rfl rfl) (da_cons (de_ix (do_of (de_ix (do_of (dv 0)) (do_of (dv 4)))) (do_of de_int)) (da_cons (dv 2) da_nil))) (dg_tup rfl (dgs_cons (dg_nm 5 sc__law_taken.nd) (dgs_cons (dg_nm 6 sc__law_taken.nd) dgs_nil))))
      (dss_one (ds_app 3 (de_tup (da_cons (dv 4) (da_cons (de_call (ok__law_cell T) rfl (fun _ _ _ _ h => ar3_len h) (hr.mono (by decide)) hG rfl T._law_cell.g T._law_cell.f.kp T._law_cell.b (takes_of rfl rfl rfl rfl) (da_cons (de_ix (do_of (de_ix (do_of (dv 0)) (do_of (dv 4)))) (do_of de_int)) (da_cons (dv 5) (da_cons (dv 6) da_nil)))) da_nil)))))) dss_nil)))
      (dss_one (ds_frz 3 (ds_ret (dv 3))))))
theorem ok_is_row (T : Txt K mg P C A) : FnG P w K mg base 4 A.is_row.1 A.is_row.2 ["thing", "many"] (toSp K 2 (sp_is_row C)) :=
  Fun.pok T.is_row.f sc_is_row rfl (sh_is_row C) fun cdv A' outer s H E hr hG =>
    (dss_cons (ds_if (DW.dt (dw_or (dt_not (dt_val (de_isi "tuple" (by decide) rfl T.z_isinstance rfl T.z_tuple (by decide +kernel) (do_of (dv 0))))) (dw_or1 (dt_lt (do_of (de_len rfl T.z_len (do_of (dv 0)))) (do_of de_int))))) (dss_one (ds_ret de_bl)) dss_nil)
      (dss_cons (ds_if (DW.dt (dw_and (dt_val (de_isi "str" (by decide) rfl T.z_isinstance rfl T.z_str (by decide +kernel) (do_of (de_ix (do_of (dv 0)) (do_of de_int))))) (dw_and1 (dt_eq hr.units (do_of (de_ix (do_of (dv 0)) (do_of de_int))) (do_of de_str))))) (dss_one (ds_ret (de_and (de_eq hr.units (do_of (de_len rfl T.z_len (do_of (dv 0)))) (do_of de_int)) (de_bone (de_call (ok_is_word T) rfl (fun _ _ _ _ h => ar1_len h) (hr.mono (by decide)) hG rfl T.is_word.g T.is_word.f.kp T.is_word.b (takes_of rfl rfl rfl rfl) (da_cons (de_ix (do_of (dv 0)) (do_of de_int)) da_nil)))))) dss_nil)
      (dss_cons (ds_if (DW.dt (dw_or (dt_ne hr.units (do_of (de_len rfl T.z_len (do_of (dv 0)))) (do_of de_int)) (dw_or (dt_not (dt_val (de_isi "str" (by decide) rfl T.z_isinstance rfl T.z_str (by decide +kernel) (do_of (de_ix (do_of (dv 0)) (do_of de_int)))))) (dw_or1 (dt_ne hr.units (do_of (de_ix (do_of (dv 0)) (do_of de_int))) (do_of de_str)))))) (dss_one (ds_ret de_bl)) dss_nil)
      (dss_cons (ds_if (DW.dt (dw_or (dt_not (dt_val (de_call (ok_is_half T) rfl (fun _ _ _ _ h => ar1_len h) (hr.mono (by decide)) hG rfl T.is_half.g T.is_half.f.kp T.is_half.b (takes_of rfl rfl rfl rfl) (da_cons (de_ix (do_of (dv 0)) (do_of de_int)) da_nil)))) (dw_or (dt_not (dt_val (de_call (ok_are_ends T) rfl (fun _ _ _ _ h => ar2_len h) (hr.mono (by decide)) hG rfl T.are_ends.g T.are_ends.f.kp T.are_ends.b (takes_of rfl rfl rfl rfl) (da_cons (de_ix (do_of (dv 0)) (do_of de_int)) (da_cons (de_ix (do_of (dv 0)) (do_of de_int)) da_nil))))) (dw_or1 (dt_not (dt_val (de_isi "tuple" (by decide) rfl T.z_isinstance rfl T.z_tuple (by decide +kernel) (do_of (de_ix (do_of (dv 0)) (do_of de_int)))))))))) (dss_one (ds_ret de_bl)) dss_nil)
      (dss_one (ds_ret (de_and (de_eq hr.units (do_of (de_len rfl T.z_len (do_of (de_ix (do_of (dv 0)) (do_of de_int))))) (do_of (de_add (do_of (de_mul (do_of de_int) (do_of (de_len rfl T.z_len (do_of (de_ix (do_of (dv 0)) (do_of de_int))))))) (do_of de_int)))) (de_bone (de_all rfl rfl T.z_all (do_of (de_l (dl_comp rfl sc_is_row.nd (own := [("goal", 2)]) (di_any (de_ix (do_of (dv 0)) (do_of de_int))) (blkOk_by rfl) (fun _ _ _ _ _ => (dg_nm 2 sc_is_row.nd)) (fun _ _ _ _ _ => dts_nil) (fun _ _ _ _ _ => (de_call (ok_is_between T) rfl (fun _ _ _ _ h => ar3_len h) (hr.mono (by decide)) hG rfl T.is_between.g T.is_between.f.kp T.is_between.b takes0 (da_cons (dv 2) (da_cons de_int (da_cons (de_sub (do_of (dv 1)) (do_of de_int)) da_nil)))))))))))))))))
theorem ok_goal_of (T : Txt K mg P C A) : FnG P w K mg base 4 A.goal_of.1 A.goal_of.2 ["row", "top", "bottom"] (toSp K 3 (sp_goal_of C)) :=
  Fun.pok T.goal_of.f sc_goal_of rfl (sh_goal_of C) fun cdv A' outer s H E hr hG =>
    (dss_one (ds_ret (de_ix (do_of (de_ix (do_of (dv 0)) (do_of de_int))) (do_of (de_call (ok_cell_of T) rfl (fun _ _ _ _ h => ar2_len h) (hr.mono (by decide)) hG rfl T.cell_of.g T.cell_of.f.kp T.cell_of.b (takes_of rfl rfl rfl rfl) (da_cons (de_ix (do_of (dv 0)) (do_of de_int)) (da_cons (de_call (ok_folded T) rfl (fun _ _ _ _ h => ar3_len h) (hr.mono (by decide)) hG rfl T.folded.g T.folded.f.kp T.folded.b (takes_of rfl rfl rfl rfl) (da_cons (de_ix (do_of (dv 0)) (do_of de_int)) (da_cons (dv 1) (da_cons (dv 2) da_nil)))) da_nil)))))))
theorem ok_taken_by (T : Txt K mg P C A) : FnG P w K mg base 4 A.taken_by.1 A.taken_by.2 ["rows", "path", "top", "bottom"] (toSp K 4 (sp_taken_by C)) :=
  Fun.pok T.taken_by.f sc_taken_by rfl (sh_taken_by C) fun cdv A' outer s H E hr hG =>
    (dss_cons (ds_set 4 sc_taken_by.nd (de_ife (dt_eq hr.units (do_of (de_ix (do_of (de_ix (do_of (dv 0)) (do_of (de_ix (do_of (dv 1)) (do_of (de_neg (do_of de_int))))))) (do_of de_int))) (do_of de_str)) (dv 1) (de_sl (do_of (dv 1)) dp_no (dp_pt (de_neg (do_of de_int))))))
      (dss_one (ds_ret (de_l (dl_comp rfl sc_taken_by.nd (own := [("at", 5)]) (di_any (dv 4)) (blkOk_by rfl) (fun _ _ _ _ _ => (dg_nm 5 sc_taken_by.nd)) (fun _ _ _ _ _ => dts_nil) (fun _ _ _ _ _ => (de_tup (da_cons (dv 5) (da_cons (de_call (ok_cell_of T) rfl (fun _ _ _ _ h => ar2_len h) (hr.mono (by decide)) hG rfl T.cell_of.g T.cell_of.f.kp T.cell_of.b takes0 (da_cons (de_ix (do_of (de_ix (do_of (dv 0)) (do_of (dv 5)))) (do_of de_int)) (da_cons (de_call (ok_folded T) rfl (fun _ _ _ _ h => ar3_len h) (hr.mono (by decide)) hG rfl T.folded.g T.folded.f.kp T.folded.b takes0 (da_cons (de_ix (do_of (de_ix (do_of (dv 0)) (do_of (dv 5)))) (do_of de_int)) (da_cons (dv 2) (da_cons (dv 3) da_nil)))) da_nil))) da_nil)))))))))
theorem ok__law_halves (T : Txt K mg P C A) : FnG P w K mg base 4 A._law_halves.1 A._law_halves.2 ["_law_draw", "_law_many", "_law_most"] (toSp K 3 (sp__law_halvesP C)) :=
  Fun.pok T._law_halves.f sc__law_halves rfl (sh__law_halvesP C) fun cdv A' outer s H E hr hG =>
    (dss_cons (ds_setO 3 sc__law_halves.nd (dl_lst (da_cons (de_min2 rfl rfl T.z_min (do_of (de_call (ok__law_half T) rfl (fun _ _ _ _ h => ar1_len h) (hr.mono (by decide)) hG rfl T._law_half.g T._law_half.f.kp T._law_half.b (takes_of rfl rfl rfl rfl) (da_cons (dv 0) da_nil))) (do_of (dv 2))) da_nil)))
      (dss_cons (ds_for (passes_of rfl) rfl (di_r1 rfl T.z_range (de_call (ok__law_take T) rfl (fun _ _ _ _ h => ar2_len h) (hr.mono (by decide)) hG rfl T._law_take.g T._law_take.f.kp T._law_take.b (takes_of rfl rfl rfl rfl) (da_cons (dv 0) (da_cons (dv 1) da_nil)))) (dg_nm 4 sc__law_halves.nd) (dss_cons (ds_set 5 sc__law_halves.nd (de_call ((ok__law_pick T).wk (fun _ _ _ _ h => pickX_of h)) rfl (fun _ _ _ _ h => ar2_len h) (hr.mono (by decide)) hG rfl T._law_pick.g T._law_pick.f.kp T._law_pick.b (takes_of rfl rfl rfl rfl) (da_cons (dv 0) (da_cons (de_l (dl_lst (da_cons (de_call (ok__law_half T) rfl (fun _ _ _ _ h => ar1_len h) (hr.mono (by decide)) hG rfl T._law_half.g T._law_half.f.kp T._law_half.b (takes_of rfl rfl rfl rfl) (da_cons (dv 0) da_nil)) (da_cons (de_mul (do_of (de_ix (dn 3) (do_of de_int))) (do_of de_int)) (da_cons (de_ix (dn 3) (do_of (de_neg (do_of de_int)))) da_nil))))) da_nil))))
      (dss_one (ds_if (DW.dt (dw_and (dt_le (do_of (dv 5)) (do_of de_int)) (dw_and1 (dt_le (do_of (de_call ((ok__law_lcm T).wk (fun _ _ _ _ h => lcmW_of h)) rfl (fun _ _ _ _ h => ar1_len h) (hr.mono (by decide)) hG rfl T._law_lcm.g T._law_lcm.f.kp T._law_lcm.b (takes_of rfl rfl rfl rfl) (da_cons (de_add (dn 3) (do_of (de_l (dl_lst (da_cons (dv 5) da_nil))))) da_nil))) (do_of (dv 2)))))) (dss_one (ds_app 3 (dv 5))) dss_nil))))
      (dss_one (ds_frz 3 (ds_ret (dv 3))))))
theorem ok_path_of (T : Txt K mg P C A) : FnG P w K mg base 5 A.path_of.1 A.path_of.2 ["rows", "top", "bottom"] (toSp K 3 (sp_path_of C)) :=
  Fun.pok T.path_of.f sc_path_of rfl (sh_path_of C) fun cdv A' outer s H E hr hG =>
    (dss_cons (ds_parF2L 3 4 rfl sc_path_of.nd (dl_lst (da_cons de_int da_nil)) de_int)
      (dss_cons (ds_while (passes_of rfl) (dt_eq hr.units (do_of (de_ix (do_of (de_ix (do_of (dv 0)) (do_of (dv 4)))) (do_of de_int))) (do_of de_str)) (dss_cons (ds_set 4 sc_path_of.nd (de_call (ok_goal_of T) rfl (fun _ _ _ _ h => ar3_len h) (hr.mono (by decide)) hG rfl T.goal_of.g T.goal_of.f.kp T.goal_of.b (takes_of rfl rfl rfl rfl) (da_cons (de_ix (do_of (dv 0)) (do_of (dv 4))) (da_cons (dv 1) (da_cons (dv 2) da_nil)))))
      (dss_cons (ds_if (dt_inI (do_of (dv 4)) (dn 3)) (dss_one (ds_ret (de_tupc rfl T.z_tuple (do_of (de_add (dn 3) (do_of (de_l (dl_lst (da_cons (dv 4) da_nil))))))))) dss_nil)
      (dss_one (ds_app 3 (dv 4))))))
      (dss_one (ds_ret (de_tupc rfl T.z_tuple (dn 3))))))
theorem ok_Program___init__ (T : Txt K mg P C A) : FnG P w K mg base 5 A.Program___init__.1 A.Program___init__.2 ["self", "rows"] (toSp K 2 (sp_Program___init__ C)) :=
  Fun.pok T.Program___init__.f sc_Program___init__ rfl (sh_Program___init__ C) fun cdv A' outer s H E hr hG =>
    (dss_cons (ds_if (DW.dt (dw_or (dt_not (dt_val (de_isi "tuple" (by decide) rfl T.z_isinstance rfl T.z_tuple (by decide +kernel) (do_of (dv 1))))) (dw_or1 (dt_eq0 hr.units (do_of (dv 1)) (do_of (de_tup da_nil)))))) (dss_one (ds_raiseA (k := 0) rfl (takes_of rfl rfl rfl rfl) T.xa_BadProgram (hr.mono (by decide)) rfl de_int)) dss_nil)
      (dss_cons (ds_for (passes_of rfl) rfl (di_enumA rfl T.z_enumerate (dv 1)) (dg_tup rfl (dgs_cons (dg_nm 2 sc_Program___init__.nd) (dgs_cons (dg_nm 3 sc_Program___init__.nd) dgs_nil))) (dss_one (ds_if (DW.dt (dw_or (dt_eq hr.units (do_of (dv 2)) (do_of (de_gintE rfl T.c_MOST_ROWS))) (dw_or1 (dt_not (dt_val (de_call (ok_is_row T) rfl (fun _ _ _ _ h => ar2_len h) (hr.mono (by decide)) hG rfl T.is_row.g T.is_row.f.kp T.is_row.b (takes_of rfl rfl rfl rfl) (da_cons (dv 3) (da_cons (de_len rfl T.z_len (do_of (dv 1))) da_nil)))))))) (dss_one (ds_raiseA (k := 0) rfl (takes_of rfl rfl rfl rfl) T.xa_BadProgram (hr.mono (by decide)) rfl (dv 2))) dss_nil)))
      (dss_cons (ds_fldSet T.cls_Program.cl T.na_Program_p_rows (dv 0) (dv 1))
      (dss_one (ds_fldSet T.cls_Program.cl T.na_Program_p_halves (dv 0) (de_tupc rfl T.z_tuple (do_of (de_l (dl_sortSet rfl sc_Program___init__.nd (own := [("row", 3)]) (di_any (dv 1)) (blkOk_by rfl) (fun _ _ _ _ _ => (dg_nm 3 sc_Program___init__.nd)) (fun _ _ _ _ _ => (dts_one (dt_eq hr.units (do_of (de_ix (do_of (dv 3)) (do_of de_int))) (do_of de_str)))) (fun _ _ _ _ _ => (de_ix (do_of (dv 3)) (do_of de_int))) rfl T.z_sorted)))))))))
theorem ok__law_rows (T : Txt K mg P C A) : FnG P w K mg base 5 A._law_rows.1 A._law_rows.2 ["_law_draw", "_law_most_of"] (toSp K 2 (sp__law_rows C)) :=
  Fun.pok T._law_rows.f sc__law_rows rfl (rowsOf_ok (C := C) (top := 20) (by decide)) fun cdv A' outer s H E hr hG =>
    (dss_cons (ds_parL2 2 3 rfl sc__law_rows.nd (de_call (ok__law_halves T) rfl (fun _ _ _ _ h => ar3_len h) (hr.mono (by decide)) hG rfl T._law_halves.g T._law_halves.f.kp T._law_halves.b (takes_of rfl rfl rfl rfl) (da_cons (dv 0) (da_cons de_int (da_cons (dv 1) da_nil)))))
      (dss_cons (ds_set 4 sc__law_rows.nd (de_add (do_of de_int) (do_of (de_call (ok__law_take T) rfl (fun _ _ _ _ h => ar2_len h) (hr.mono (by decide)) hG rfl T._law_take.g T._law_take.f.kp T._law_take.b (takes_of rfl rfl rfl rfl) (da_cons (dv 0) (da_cons (de_call ((ok__law_pick T).wk (fun _ _ _ _ h => pickX_of h)) rfl (fun _ _ _ _ h => ar2_len h) (hr.mono (by decide)) hG rfl T._law_pick.g T._law_pick.f.kp T._law_pick.b (takes_of rfl rfl rfl rfl) (da_cons (dv 0) (da_cons (de_l (dl_lst (da_cons de_int (da_cons de_int (da_cons de_int (da_cons de_int da_nil)))))) da_nil))) da_nil))))))
      (dss_cons (ds_for (passes_of rfl) rfl (di_r1 rfl T.z_range (dv 4)) (dg_nm 5 sc__law_rows.nd) (dss_one (ds_if (DW.dt (dw_or (dt_eq hr.units (do_of (de_call (ok__law_take T) rfl (fun _ _ _ _ h => ar2_len h) (hr.mono (by decide)) hG rfl T._law_take.g T._law_take.f.kp T._law_take.b (takes_of rfl rfl rfl rfl) (da_cons (dv 0) (da_cons de_int da_nil)))) (do_of de_int)) (dw_or1 (DW.dt (dw_and (dt_eq hr.units (do_of (dv 5)) (do_of (de_sub (do_of (dv 4)) (do_of de_int)))) (dw_and1 (dt_gt (do_of (de_call (ok__law_take T) rfl (fun _ _ _ _ h => ar2_len h) (hr.mono (by decide)) hG rfl T._law_take.g T._law_take.f.kp T._law_take.b (takes_of rfl rfl rfl rfl) (da_cons (dv 0) (da_cons de_int da_nil)))) (do_of de_int)))))))) (dss_one (ds_app 3 (de_tup (da_cons de_str (da_cons (de_call (ok__law_term T) rfl (fun _ _ _ _ h => ar1_len h) (hr.mono (by decide)) hG rfl T._law_term.g T._law_term.f.kp T._law_term.b (takes_of rfl rfl rfl rfl) (da_cons (dv 0) da_nil)) da_nil))))) (dss_cons (ds_set 6 sc__law_rows.nd (de_call ((ok__law_pick T).wk (fun _ _ _ _ h => pickX_of h)) rfl (fun _ _ _ _ h => ar2_len h) (hr.mono (by decide)) hG rfl T._law_pick.g T._law_pick.f.kp T._law_pick.b (takes_of rfl rfl rfl rfl) (da_cons (dv 0) (da_cons (dv 2) da_nil))))
      (dss_cons (ds_parL2 7 8 rfl sc__law_rows.nd (de_call (ok__law_ends T) rfl (fun _ _ _ _ h => ar2_len h) (hr.mono (by decide)) hG rfl T._law_ends.g T._law_ends.f.kp T._law_ends.b (takes_of rfl rfl rfl rfl) (da_cons (dv 0) (da_cons (dv 6) da_nil))))
      (dss_cons (ds_for (passes_of rfl) rfl (di_r1 rfl T.z_range (de_add (do_of (de_mul (do_of de_int) (do_of (de_len rfl T.z_len (do_of (dv 7)))))) (do_of de_int))) (dg_nm 9 sc__law_rows.nd) (dss_cons (ds_set 10 sc__law_rows.nd (de_add (do_of (de_add (do_of (dv 5)) (do_of de_int))) (do_of (de_call (ok__law_take T) rfl (fun _ _ _ _ h => ar2_len h) (hr.mono (by decide)) hG rfl T._law_take.g T._law_take.f.kp T._law_take.b (takes_of rfl rfl rfl rfl) (da_cons (dv 0) (da_cons (de_max2 rfl rfl T.z_max (do_of de_int) (do_of (de_sub (do_of (de_sub (do_of (dv 4)) (do_of (dv 5)))) (do_of de_int)))) da_nil))))))
      (dss_one (ds_app 8 (de_call ((ok__law_pick T).wk (fun _ _ _ _ h => pickX_of h)) rfl (fun _ _ _ _ h => ar2_len h) (hr.mono (by decide)) hG rfl T._law_pick.g T._law_pick.f.kp T._law_pick.b (takes_of rfl rfl rfl rfl) (da_cons (dv 0) (da_cons (de_l (dl_lst (da_cons (de_min2 rfl rfl T.z_min (do_of (de_sub (do_of (dv 4)) (do_of de_int))) (do_of (dv 10))) (da_cons (de_min2 rfl rfl T.z_min (do_of (de_sub (do_of (dv 4)) (do_of de_int))) (do_of (dv 10))) (da_cons (de_call (ok__law_take T) rfl (fun _ _ _ _ h => ar2_len h) (hr.mono (by decide)) hG rfl T._law_take.g T._law_take.f.kp T._law_take.b (takes_of rfl rfl rfl rfl) (da_cons (dv 0) (da_cons (dv 4) da_nil))) da_nil))))) da_nil)))))))
      (dss_one (ds_app 3 (de_tup (da_cons de_str (da_cons (dv 6) (da_cons (dv 7) (da_cons (de_tupc rfl T.z_tuple (dn 8)) da_nil)))))))))))))
      (dss_one (ds_ret (de_tupc rfl T.z_tuple (dn 3)))))))
theorem ok_Program___call__ (T : Txt K mg P C A) : FnG P w K mg base 6 A.Program___call__.1 A.Program___call__.2 ["self", "speed"] (toSp K 2 (sp_Program___call__ C)) :=
  Fun.pok T.Program___call__.f sc_Program___call__ rfl (sh_Program___call__ C) fun cdv A' outer s H E hr hG =>
    (dss_cons (ds_expr (de_call (ok_need_speed T) rfl (fun _ _ _ _ h => ar1_len h) (hr.mono (by decide)) hG rfl T.need_speed.g T.need_speed.f.kp T.need_speed.b (takes_of rfl rfl rfl rfl) (da_cons (dv 1) da_nil)))
      (dss_one (ds_ret (de_call (ok_path_of T) rfl (fun _ _ _ _ h => ar3_len h) (hr.mono (by decide)) hG rfl T.path_of.g T.path_of.f.kp T.path_of.b (takes_of rfl rfl rfl rfl) (da_cons (de_fld T.cls_Program.cl T.na_Program_p_rows (dv 0)) (da_cons (de_ix (do_of (dv 1)) (do_of de_int)) (da_cons (de_ix (do_of (dv 1)) (do_of de_int)) da_nil)))))))
theorem ok_regions_by_path (T : Txt K mg P C A) : FnG P w K mg base 6 A.regions_by_path.1 A.regions_by_path.2 ["program"] (toSp K 1 (sp_regions_by_path C)) :=
  Fun.pok T.regions_by_path.f sc_regions_by_path rfl (sh_regions_by_path C) fun cdv A' outer s H E hr hG =>
    (dss_cons (ds_parED 1 2 rfl sc_regions_by_path.nd (de_call (ok_need_small T) rfl (fun _ _ _ _ h => ar1_len h) (hr.mono (by decide)) hG rfl T.need_small.g T.need_small.f.kp T.need_small.b (takes_of rfl rfl rfl rfl) (da_cons (de_propT T.pr_Program_halves sc_Program_halves rfl rfl T.cls_Program.cl T.na_Program_p_halves (hr.mono (by decide)) (dv 0)) da_nil)))
      (dss_cons (ds_for (passes_of rfl) rfl (di_r1 rfl T.z_range (de_add (do_of (de_mul (do_of de_int) (do_of (dv 1)))) (do_of de_int))) (dg_nm 3 sc_regions_by_path.nd) (dss_cons (ds_asg (de_call (ok_speed_in T) rfl (fun _ _ _ _ h => ar1_len h) (hr.mono (by decide)) hG rfl T.speed_in.g T.speed_in.f.kp T.speed_in.b (takes_of rfl rfl rfl rfl) (da_cons (dv 3) da_nil)) (dg_tup rfl (dgs_cons (dg_nm 4 sc_regions_by_path.nd) (dgs_cons (dg_nm 5 sc_regions_by_path.nd) dgs_nil))))
      (dss_one (ds_sdA 2 (hu9 hr) (de_call (ok_path_of T) rfl (fun _ _ _ _ h => ar3_len h) (hr.mono (by decide)) hG rfl T.path_of.g T.path_of.f.kp T.path_of.b (takes_of rfl rfl rfl rfl) (da_cons (de_propT T.pr_Program_rows sc_Program_rows rfl rfl T.cls_Program.cl T.na_Program_p_rows (hr.mono (by decide)) (dv 0)) (da_cons (dv 4) (da_cons (dv 5) da_nil)))) (dv 3)))))
      (dss_one (ds_fzD 2 (ds_ret (de_tup (da_cons (dv 1) (da_cons (dv 2) da_nil))))))))
theorem ok_most_looks (T : Txt K mg P C A) : FnG P w K mg base 7 A.most_looks.1 A.most_looks.2 ["program"] (toSp K 1 (sp_most_looks C)) :=
  Fun.pok T.most_looks.f sc_most_looks rfl (sh_most_looks C) fun cdv A' outer s H E hr hG =>
    (dss_cons (ds_set 1 sc_most_looks.nd (de_ix (do_of (de_call (ok_regions_by_path T) rfl (fun _ _ _ _ h => ar1_len h) (hr.mono (by decide)) hG rfl T.regions_by_path.g T.regions_by_path.f.kp T.regions_by_path.b (takes_of rfl rfl rfl rfl) (da_cons (dv 0) da_nil))) (do_of de_int)))
      (dss_cons (ds_if (dt_val (de_any rfl rfl T.z_any (do_of (de_l (dl_comp rfl sc_most_looks.nd (own := [("path", 4)]) (di_keysF (dv 1)) (blkOk_by rfl) (fun _ _ _ _ _ => (dg_nm 4 sc_most_looks.nd)) (fun _ _ _ _ _ => dts_nil) (fun _ _ _ _ _ => (de_is (do_of (de_call (ok_word_of T) rfl (fun _ _ _ _ h => ar2_len h) (hr.mono (by decide)) hG rfl T.word_of.g T.word_of.f.kp T.word_of.b takes0 (da_cons (de_propT T.pr_Program_rows sc_Program_rows rfl rfl T.cls_Program.cl T.na_Program_p_rows (hr.mono (by decide)) (dv 0)) (da_cons (dv 4) da_nil)))) (do_of de_non)))))))) (dss_one (ds_ret de_non)) dss_nil)
      (dss_cons (ds_set 2 sc_most_looks.nd (de_max rfl rfl T.z_max (do_of (de_l (dl_comp rfl sc_most_looks.nd (own := [("path", 4)]) (di_keysF (dv 1)) (blkOk_by rfl) (fun _ _ _ _ _ => (dg_nm 4 sc_most_looks.nd)) (fun _ _ _ _ _ => dts_nil) (fun _ _ _ _ _ => (de_len rfl T.z_len (do_of (dv 4)))))))))
      (dss_cons (ds_setC2 3 [5] (own := [("path", 4), ("region", 5)]) rfl sc_most_looks.nd (sw_true rfl rfl rfl (by decide +kernel)) (di_keysF (dv 1)) (blkOk_by rfl) (fun _ _ _ _ _ => (dg_nm 4 sc_most_looks.nd)) (fun _ _ _ _ _ => (dts_one (dt_eq hr.units (do_of (de_len rfl T.z_len (do_of (dv 4)))) (do_of (dv 2))))) (fun _ _ _ _ _ => (di_any (de_getFz (hu9 hr) (dv 1) (dv 4)))) (fun _ _ _ _ _ => (dg_nm 5 sc_most_looks.nd)) (fun _ _ _ _ _ => dts_nil) (fun _ _ _ _ _ => (dv 5)))
      (dss_one (ds_ret (de_tup (da_cons (de_sub (do_of (dv 2)) (do_of de_int)) (da_cons (de_call (ok_simplest_of T) rfl (fun _ _ _ _ h => ar1_len h) (hr.mono (by decide)) hG rfl T.simplest_of.g T.simplest_of.f.kp T.simplest_of.b (takes_of rfl rfl rfl rfl) (da_cons (dv 3) da_nil)) da_nil)))))))))
theorem ok_untaken (T : Txt K mg P C A) : FnG P w K mg base 7 A.untaken.1 A.untaken.2 ["program"] (toSpL K 1 (sp_untaken C)) :=
  Fun.pokL T.untaken.f sc_untaken rfl (sh_untaken C) fun cdv A' outer s H E hr hG =>
    (dss_cons (ds_set 1 sc_untaken.nd de_newN)
      (dss_cons (ds_for (passes_of rfl) rfl (di_itemsF (de_ix (do_of (de_call (ok_regions_by_path T) rfl (fun _ _ _ _ h => ar1_len h) (hr.mono (by decide)) hG rfl T.regions_by_path.g T.regions_by_path.f.kp T.regions_by_path.b (takes_of rfl rfl rfl rfl) (da_cons (dv 0) da_nil))) (do_of de_int))) (dg_tup rfl (dgs_cons (dg_nm 2 sc_untaken.nd) (dgs_cons (dg_nm 3 sc_untaken.nd) dgs_nil))) (dss_one (ds_for (passes_of rfl) rfl (di_any (dv 3)) (dg_nm 4 sc_untaken.nd) (dss_cons (ds_asg (de_call (ok_speed_in T) rfl (fun _ _ _ _ h => ar1_len h) (hr.mono (by decide)) hG rfl T.speed_in.g T.speed_in.f.kp T.speed_in.b (takes_of rfl rfl rfl rfl) (da_cons (dv 4) da_nil)) (dg_tup rfl (dgs_cons (dg_nm 5 sc_untaken.nd) (dgs_cons (dg_nm 6 sc_untaken.nd) dgs_nil))))
      (dss_one (ds_for (passes_of rfl) rfl (di_any (de_call (ok_taken_by T) rfl (fun _ _ _ _ h => ar4_len h) (hr.mono (by decide)) hG rfl T.taken_by.g T.taken_by.f.kp T.taken_by.b (takes_of rfl rfl rfl rfl) (da_cons (de_propT T.pr_Program_rows sc_Program_rows rfl rfl T.cls_Program.cl T.na_Program_p_rows (hr.mono (by decide)) (dv 0)) (da_cons (dv 2) (da_cons (dv 5) (da_cons (dv 6) da_nil)))))) (dg_nm 7 sc_untaken.nd) (dss_one (ds_putN (hu9 hr) de_bl (do_of (dv 1)) (do_of (dv 7))))))))))
      (dss_cons (ds_setO 8 sc_untaken.nd (dl_lst da_nil))
      (dss_cons (ds_for (passes_of rfl) rfl (di_enumA rfl T.z_enumerate (de_propT T.pr_Program_rows sc_Program_rows rfl rfl T.cls_Program.cl T.na_Program_p_rows (hr.mono (by decide)) (dv 0))) (dg_tup rfl (dgs_cons (dg_nm 9 sc_untaken.nd) (dgs_cons (dg_nm 10 sc_untaken.nd) dgs_nil))) (dss_one (ds_if (dt_eq hr.units (do_of (de_ix (do_of (dv 10)) (do_of de_int))) (do_of de_str)) (dss_one (ds_setO 8 sc_untaken.nd (dl_cat (dn 8) (do_of (de_l (dl_comp rfl sc_untaken.nd (own := [("cell", 11)]) (di_r1 rfl T.z_range (de_len rfl T.z_len (do_of (de_ix (do_of (dv 10)) (do_of de_int))))) (blkOk_by rfl) (fun _ _ _ _ _ => (dg_nm 11 sc_untaken.nd)) (fun _ _ _ _ _ => (dts_one (dt_notinN (hu9 hr) (do_of (de_tup (da_cons (dv 9) (da_cons (dv 11) da_nil)))) (do_of (dv 1))))) (fun _ _ _ _ _ => (de_tup (da_cons (dv 9) (da_cons (dv 11) da_nil)))))))))) dss_nil)))
      (dss_one (ds_retOwn 8))))))
theorem ok_law (T : Txt K mg P C A) : FnG P w K mg base 8 A.law.1 A.law.2 ["_law_script"] (toSp K 1 sp_law) :=
  Fun.pok T.law.f sc_law rfl (sh_law C) fun cdv A' outer s H E hr hG =>
    (dss_cons (ds_set 1 sc_law.nd (de_call (ok__law_begin T) rfl (fun _ _ _ _ h => ar1_len h) (hr.mono (by decide)) hG rfl T._law_begin.g T._law_begin.f.kp T._law_begin.b (takes_of rfl rfl rfl rfl) (da_cons (dv 0) da_nil)))
      (dss_cons (ds_set 2 sc_law.nd (de_make (T.cls_Program.maker T.Program___init__) (ok_Program___init__ T) (fun _ _ _ _ h => ar2_len h) (hr.mono (by decide)) hG rfl T.cls_Program.g T.Program___init__.b (takes_of rfl rfl rfl rfl) (da_cons (de_add (do_of (de_tupc rfl T.z_tuple (do_of (de_l (dl_comp rfl sc_law.nd (own := [("_law_at", 15)]) (di_r1 rfl T.z_range de_int) (blkOk_by rfl) (fun _ _ _ _ _ => (dg_nm 15 sc_law.nd)) (fun _ _ _ _ _ => dts_nil) (fun _ _ _ _ _ => (de_tup (da_cons de_str (da_cons (de_add (do_of de_int) (do_of (de_mod (do_of (dv 15)) (do_of de_int)))) (da_cons (de_tup da_nil) (da_cons (de_tup (da_cons (de_add (do_of (dv 15)) (do_of de_int)) da_nil)) da_nil))))))))))) (do_of (de_tup (da_cons (de_tup (da_cons de_str (da_cons de_str da_nil))) da_nil)))) da_nil)))
      (dss_cons (ds_if (DW.dt (dw_or (dt_ne hr.units (do_of (de_call (ok_most_looks T) rfl (fun _ _ _ _ h => ar1_len h) (hr.mono (by decide)) hG rfl T.most_looks.g T.most_looks.f.kp T.most_looks.b (takes_of rfl rfl rfl rfl) (da_cons (dv 2) da_nil))) (do_of (de_tup (da_cons de_int (da_cons (de_tup (da_cons de_int (da_cons de_int da_nil))) da_nil))))) (dw_or (dt_ne hr.units (do_of (de_callI ⟨T.Program___call__.at_, T.Program___call__.fn, fnIn_of T.Program___call__.f⟩ (ok_Program___call__ T) (fun _ _ _ _ h => ar2_len h) (hr.mono (by decide)) hG T.Program___call__.b (takes_of rfl rfl rfl rfl) (dv 2) (da_cons (de_tup (da_cons de_int (da_cons de_int da_nil))) da_nil) rfl)) (do_of (de_tupc rfl T.z_tuple (do_of (de_l (dl_lrg1 rfl rfl T.z_list rfl T.z_range de_int)))))) (dw_or1 (dt_ne hr.units (do_of (de_l (dl_callL (ok_untaken T) rfl (fun _ _ _ _ h => ar1_len h) (hr.mono (by decide)) hG rfl T.untaken.g T.untaken.f.kp T.untaken.b (takes_of rfl rfl rfl rfl) (da_cons (dv 2) da_nil)))) (do_of (de_l (dl_lst da_nil)))))))) (dss_one (ds_ret de_bl)) dss_nil)
      (dss_cons (ds_for (passes_of rfl) rfl (di_r1 rfl T.z_range (de_add (do_of de_int) (do_of (de_min2 rfl rfl T.z_min (do_of (de_len rfl T.z_len (do_of (dv 0)))) (do_of de_int))))) (dg_nm 3 sc_law.nd) (dss_cons (ds_set 4 sc_law.nd (de_call (ok__law_rows T) rfl (fun _ _ _ _ h => ar2_len h) (hr.mono (by decide)) hG rfl T._law_rows.g T._law_rows.f.kp T._law_rows.b (takes_of rfl rfl rfl rfl) (da_cons (dv 1) (da_cons de_int da_nil))))
      (dss_cons (ds_asg (de_tup (da_cons (de_make (T.cls_Program.maker T.Program___init__) (ok_Program___init__ T) (fun _ _ _ _ h => ar2_len h) (hr.mono (by decide)) hG rfl T.cls_Program.g T.Program___init__.b (takes_of rfl rfl rfl rfl) (da_cons (dv 4) da_nil)) (da_cons de_newDk (da_cons de_newN (da_cons de_int da_nil))))) (dg_tup rfl (dgs_cons (dg_nm 5 sc_law.nd) (dgs_cons (dg_nm 6 sc_law.nd) (dgs_cons (dg_nm 7 sc_law.nd) (dgs_cons (dg_nm 8 sc_law.nd) dgs_nil))))))
      (dss_cons (ds_bag0 6 (ds_for (passes_of rfl) rfl (di_any (de_call (ok__law_spots T) rfl (fun _ _ _ _ h => ar1_len h) (hr.mono (by decide)) hG rfl T._law_spots.g T._law_spots.f.kp T._law_spots.b (takes_of rfl rfl rfl rfl) (da_cons (de_call (ok__law_whole T) rfl (fun _ _ _ _ h => ar1_len h) (hr.mono (by decide)) hG rfl T._law_whole.g T._law_whole.f.kp T._law_whole.b (takes_of rfl rfl rfl rfl) (da_cons (dv 4) da_nil)) da_nil))) (dg_nm 9 sc_law.nd) (dss_cons (ds_set 10 sc_law.nd (de_call (ok__law_path T) rfl (fun _ _ _ _ h => ar2_len h) (hr.mono (by decide)) hG rfl T._law_path.g T._law_path.f.kp T._law_path.b (takes_of rfl rfl rfl rfl) (da_cons (dv 4) (da_cons (dv 9) da_nil))))
      (dss_cons (ds_set 8 sc_law.nd (de_add (do_of (dv 8)) (do_of (de_intc rfl T.z_int (do_of (de_is (do_of (de_call (ok__law_told T) rfl (fun _ _ _ _ h => ar2_len h) (hr.mono (by decide)) hG rfl T._law_told.g T._law_told.f.kp T._law_told.b (takes_of rfl rfl rfl rfl) (da_cons (dv 4) (da_cons (dv 10) da_nil)))) (do_of de_non)))))))
      (dss_cons (ds_sdK 6 (de_sub (do_of (de_len rfl T.z_len (do_of (dv 10)))) (do_of de_int)) (dv 9))
      (dss_one (ds_for (passes_of rfl) rfl (di_any (de_call (ok__law_taken T) rfl (fun _ _ _ _ h => ar3_len h) (hr.mono (by decide)) hG rfl T._law_taken.g T._law_taken.f.kp T._law_taken.b (takes_of rfl rfl rfl rfl) (da_cons (dv 4) (da_cons (dv 10) (da_cons (dv 9) da_nil))))) (dg_nm 11 sc_law.nd) (dss_one (ds_putN (hu9 hr) de_bl (do_of (dv 7)) (do_of (dv 11)))))))))))
      (dss_cons (ds_thD 6 (ds_set 12 sc_law.nd (de_max rfl rfl T.z_max (do_of (de_l (dl_keysDk rfl rfl T.z_list (dv 6)))))))
      (dss_cons (ds_set 13 sc_law.nd (de_ife (dt_gt (do_of (dv 8)) (do_of de_int)) de_non (de_tup (da_cons (dv 12) (da_cons (de_call (ok__law_simplest T) rfl (fun _ _ _ _ h => ar1_len h) (hr.mono (by decide)) hG rfl T._law_simplest.g T._law_simplest.f.kp T._law_simplest.b (takes_of rfl rfl rfl rfl) (da_cons (de_getDk (hu9 hr) (dv 6) (dv 12)) da_nil)) da_nil)))))
      (dss_cons (ds_if (DW.dt (dw_or (dt_neS (do_of (de_repr hG hr.units rfl T.z_repr (do_of (de_call (ok_most_looks T) rfl (fun _ _ _ _ h => ar1_len h) (hr.mono (by decide)) hG rfl T.most_looks.g T.most_looks.f.kp T.most_looks.b (takes_of rfl rfl rfl rfl) (da_cons (dv 5) da_nil))))) (do_of (de_repr hG hr.units rfl T.z_repr (do_of (dv 13))))) (dw_or1 (dt_ne hr.units (do_of (de_callK (ok_most_looks T) rfl (fun _ _ _ _ h => ar1_len h) (hr.mono (by decide)) hG rfl T.most_looks.g T.most_looks.f.kp (kwb_of ["program"] [0] T.most_looks.f fun _ _ _ _ _ _ ws hl => match ws, hl with | [], h => absurd h (by simp [pick]) | _ :: _, _ => rfl) (takes_of rfl rfl rfl rfl) (dk_cons (dv 5) dk_nil))) (do_of (dv 13)))))) (dss_one (ds_ret de_bl)) dss_nil)
      (dss_cons (ds_set 14 sc_law.nd (de_l (dl_lst da_nil)))
      (dss_cons (ds_for (passes_of rfl) rfl (di_enumA rfl T.z_enumerate (dv 4)) (dg_tup rfl (dgs_cons (dg_nm 15 sc_law.nd) (dgs_cons (dg_nm 16 sc_law.nd) dgs_nil))) (dss_cons (ds_set 17 sc_law.nd (de_ife (dt_eq hr.units (do_of (de_ix (do_of (dv 16)) (do_of de_int))) (do_of de_str)) (de_l (dl_lrg1 rfl rfl T.z_list rfl T.z_range (de_len rfl T.z_len (do_of (de_ix (do_of (dv 16)) (do_of de_int)))))) (de_l (dl_lst da_nil))))
      (dss_one (ds_set 14 sc_law.nd (de_add (do_of (dv 14)) (do_of (de_l (dl_comp rfl sc_law.nd (own := [("_law_cell_here", 19)]) (di_any (dv 17)) (blkOk_by rfl) (fun _ _ _ _ _ => (dg_nm 19 sc_law.nd)) (fun _ _ _ _ _ => (dts_one (dt_notinN (hu9 hr) (do_of (de_tup (da_cons (dv 15) (da_cons (dv 19) da_nil)))) (do_of (dv 7))))) (fun _ _ _ _ _ => (de_tup (da_cons (dv 15) (da_cons (dv 19) da_nil))))))))))))
      (dss_cons (ds_setO 18 sc_law.nd (dl_callL (ok_untaken T) rfl (fun _ _ _ _ h => ar1_len h) (hr.mono (by decide)) hG rfl T.untaken.g T.untaken.f.kp T.untaken.b (takes_of rfl rfl rfl rfl) (da_cons (dv 5) da_nil)))
      (dss_cons (ds_if (dt_neS (do_of (de_repr hG hr.units rfl T.z_repr (dn 18))) (do_of (de_repr hG hr.units rfl T.z_repr (do_of (dv 14))))) (dss_one (ds_ret de_bl)) dss_nil)
      (dss_cons (ds_app 18 de_non)
      (dss_one (ds_if (dt_ne hr.units (do_of (de_l (dl_callLK (ok_untaken T) rfl (fun _ _ _ _ h => ar1_len h) (hr.mono (by decide)) hG rfl T.untaken.g T.untaken.f.kp (kwb_of ["program"] [0] T.untaken.f fun _ _ _ _ _ _ ws hl => match ws, hl with | [], h => absurd h (by simp [pick]) | _ :: _, _ => rfl) (takes_of rfl rfl rfl rfl) (dk_cons (dv 5) dk_nil)))) (do_of (dv 14))) (dss_one (ds_ret de_bl)) dss_nil))))))))))))))
      (dss_one (ds_ret de_bl))))))
end
set_option maxHeartbeats 0 in
theorem all_mk {P : Program} {w : World} {K : PySem.W.Frag} {h : Heap} {mg : Str → Option Value} {fa : Addr} {f0 f1 f2 f3 f4 f5 f6 f7 f8 f9 f10 f11 f12 f13 f14 f15 f16 f17 f18 f19 f20 f21 f22 f23 f24 f25 f26 f27 f28 f29 f30 f31 f32 f33 f34 f35 f36 f37 f38 f39 f40 f41 f42 f43 f44 f45 e_BadProgram e_BadSpeed e_TooGreat o_Program pp44 pp45 : Addr} (X : K.In h) (G : h.Ns mainGlobals mg) (hfa : mg "law" = some (.ref fa))
    {od0 an0 od1 an1 od2 an2 od3 an3 od4 an4 od5 an5 od6 an6 od7 an7 od8 an8 od9 an9 od10 an10 od11 an11 od12 an12 od13 an13 od14 an14 od15 an15 od16 an16 od17 an17 od18 an18 od19 an19 od20 an20 od21 an21 od22 an22 od23 an23 od24 an24 od25 an25 od26 an26 od27 an27 od28 an28 od29 an29 od30 an30 od31 an31 od32 an32 od33 an33 od34 an34 od35 an35 od36 an36 od37 an37 od38 an38 od39 an39 od40 an40 od41 an41 od42 an42 od43 an43 od44 an44 od45 an45 : Option Addr} {sl0 sl1 sl2 sl3 sl4 sl5 sl6 sl7 sl8 sl9 sl10 sl11 sl12 sl13 sl14 sl15 sl16 sl17 sl18 sl19 sl20 sl21 sl22 sl23 sl24 sl25 sl26 sl27 sl28 sl29 sl30 sl31 sl32 sl33 sl34 sl35 sl36 sl37 sl38 sl39 sl40 sl41 sl42 sl43 sl44 sl45 : Array (Option Value)} {oc0 kV0 dc0 pm0 cd0 ct0 oc1 kV1 dc1 pm1 cd1 ct1 oc2 kV2 dc2 pm2 cd2 ct2 oc3 kV3 dc3 pm3 cd3 ct3 oc4 kV4 dc4 pm4 cd4 ct4 oc5 kV5 dc5 pm5 cd5 ct5 oc6 kV6 dc6 pm6 cd6 ct6 oc7 kV7 dc7 pm7 cd7 ct7 oc8 kV8 dc8 pm8 cd8 ct8 oc9 kV9 dc9 pm9 cd9 ct9 oc10 kV10 dc10 pm10 cd10 ct10 oc11 kV11 dc11 pm11 cd11 ct11 oc12 kV12 dc12 pm12 cd12 ct12 oc13 kV13 dc13 pm13 cd13 ct13 oc14 kV14 dc14 pm14 cd14 ct14 oc15 kV15 dc15 pm15 cd15 ct15 oc16 kV16 dc16 pm16 cd16 ct16 oc17 kV17 dc17 pm17 cd17 ct17 oc18 kV18 dc18 pm18 cd18 ct18 oc19 kV19 dc19 pm19 cd19 ct19 oc20 kV20 dc20 pm20 cd20 ct20 oc21 kV21 dc21 pm21 cd21 ct21 oc22 kV22 dc22 pm22 cd22 ct22 oc23 kV23 dc23 pm23 cd23 ct23 oc24 kV24 dc24 pm24 cd24 ct24 oc25 kV25 dc25 pm25 cd25 ct25 oc26 kV26 dc26 pm26 cd26 ct26 oc27 kV27 dc27 pm27 cd27 ct27 oc28 kV28 dc28 pm28 cd28 ct28 oc29 kV29 dc29 pm29 cd29 ct29 oc30 kV30 dc30 pm30 cd30 ct30 oc31 kV31 dc31 pm31 cd31 ct31 oc32 kV32 dc32 pm32 cd32 ct32 oc33 kV33 dc33 pm33 cd33 ct33 oc34 kV34 dc34 pm34 cd34 ct34 oc35 kV35 dc35 pm35 cd35 ct35 oc36 kV36 dc36 pm36 cd36 ct36 oc37 kV37 dc37 pm37 cd37 ct37 oc38 kV38 dc38 pm38 cd38 ct38 oc39 kV39 dc39 pm39 cd39 ct39 oc40 kV40 dc40 pm40 cd40 ct40 oc41 kV41 dc41 pm41 cd41 ct41 oc42 kV42 dc42 pm42 cd42 ct42 oc43 kV43 dc43 pm43 cd43 ct43 oc44 kV44 dc44 pm44 cd44 ct44 oc45 kV45 dc45 pm45 cd45 ct45 : Value}
    {fiBadProgram cdaBadProgram ccBadProgram NCBadProgram : Addr} {nmBadProgram qnBadProgram filBadProgram : Str} {bsBadProgram bmBadProgram subBadProgram : List Value} {snBadProgram : List Str} {abBadProgram : Bool} {colBadProgram : Option Bool} {ddBadProgram odiBadProgram aniBadProgram cddBadProgram cldBadProgram : Option Addr} {k0BadProgram k1BadProgram k2BadProgram k3BadProgram k5BadProgram : Option Value} {ociBadProgram kViBadProgram dciBadProgram pmiBadProgram ctiBadProgram cclBadProgram clBadProgram : Value} {sliBadProgram ccsBadProgram cslBadProgram : Array (Option Value)} {vsBadProgram : Array Value} {tfBadProgram : Tok}
    {fiTooGreat cdaTooGreat ccTooGreat NCTooGreat : Addr} {nmTooGreat qnTooGreat filTooGreat : Str} {bsTooGreat bmTooGreat subTooGreat : List Value} {snTooGreat : List Str} {abTooGreat : Bool} {colTooGreat : Option Bool} {ddTooGreat odiTooGreat aniTooGreat cddTooGreat cldTooGreat : Option Addr} {k0TooGreat k1TooGreat k2TooGreat k3TooGreat k5TooGreat : Option Value} {ociTooGreat kViTooGreat dciTooGreat pmiTooGreat ctiTooGreat cclTooGreat clTooGreat : Value} {sliTooGreat ccsTooGreat cslTooGreat : Array (Option Value)} {vsTooGreat : Array Value} {tfTooGreat : Tok}
    (gx_BadProgram : PySem.W.nsIn K mainGlobals "BadProgram" = some (some (.ref e_BadProgram)))
    (gx_BadSpeed : PySem.W.nsIn K mainGlobals "BadSpeed" = some (some (.ref e_BadSpeed)))
    (gx_TooGreat : PySem.W.nsIn K mainGlobals "TooGreat" = some (some (.ref e_TooGreat)))
    (xc_BadProgram : K.lookup e_BadProgram = some (excClassObj nmBadProgram qnBadProgram e_BadProgram NCBadProgram bsBadProgram bmBadProgram true snBadProgram subBadProgram abBadProgram colBadProgram ddBadProgram k0BadProgram k1BadProgram k2BadProgram k3BadProgram k5BadProgram "ValueError.__new__"))
    (xr_BadProgram : HandSPX.refsVE bmBadProgram = true)
    (xs_BadProgram : PySem.W.findIn K (.ref e_BadProgram) "__setattr__" = some (some (.builtin "object.__setattr__")))
    (xb_BadProgram : PySem.W.subIn K (.ref e_BadProgram) (.type "BaseException") = some true)
    (xt_BadProgram : PySem.W.typeIn K (.ref e_BadProgram) = some (.type "type"))
    (xk_BadProgram : PySem.W.keepIn K (.ref e_BadProgram) = true)
    (xi_BadProgram : PySem.W.findIn K (.ref e_BadProgram) "__init__" = some (some (.ref fiBadProgram)))
    (xf_BadProgram : PySem.W.typeIn K (.ref fiBadProgram) = some (.type "function"))
    (xl_BadProgram : K.lookup fiBadProgram = some ⟨ociBadProgram, odiBadProgram, .func (PySem.W.ksFn "__init__" "BadProgram.__init__" (defArgs s_BadProgram___init__) (defBody s_BadProgram___init__) (defScope s_BadProgram___init__) .none kViBadProgram dciBadProgram pmiBadProgram aniBadProgram (.ref cdaBadProgram) ctiBadProgram ccBadProgram), sliBadProgram⟩)
    (xo_BadProgram : PySem.W.codeIn K (.ref cdaBadProgram) "BadProgram.__init__" = true)
    (xd_BadProgram : K.lookup cdaBadProgram = some ⟨cclBadProgram, cddBadProgram, .fields vsBadProgram, ccsBadProgram⟩)
    (xv_BadProgram : vsBadProgram[2]? = some (.str filBadProgram tfBadProgram))
    (xp_BadProgram : ((P.main.file : Str) == filBadProgram) = true)
    (xe_BadProgram : K.lookup ccBadProgram = some ⟨clBadProgram, cldBadProgram, .cell (some (.ref e_BadProgram)), cslBadProgram⟩)
    (xu_BadProgram : PySem.W.ks_superIn K e_BadProgram e_BadProgram "__init__" = some (some (.builtin "ValueError.__init__")))
    (xw_BadProgram : PySem.W.subIn K (.ref e_BadProgram) (.type "ValueError") = some true)
    (xm_BadProgram : PySem.W.mroIn K e_BadProgram (.ref e_BadProgram) = some true)
    (xn_BadProgram : PySem.W.findIn K (.ref e_BadProgram) "row" = some none)
    (xc_TooGreat : K.lookup e_TooGreat = some (excClassObj nmTooGreat qnTooGreat e_TooGreat NCTooGreat bsTooGreat bmTooGreat true snTooGreat subTooGreat abTooGreat colTooGreat ddTooGreat k0TooGreat k1TooGreat k2TooGreat k3TooGreat k5TooGreat "ValueError.__new__"))
    (xr_TooGreat : HandSPX.refsVE bmTooGreat = true)
    (xs_TooGreat : PySem.W.findIn K (.ref e_TooGreat) "__setattr__" = some (some (.builtin "object.__setattr__")))
    (xb_TooGreat : PySem.W.subIn K (.ref e_TooGreat) (.type "BaseException") = some true)
    (xt_TooGreat : PySem.W.typeIn K (.ref e_TooGreat) = some (.type "type"))
    (xk_TooGreat : PySem.W.keepIn K (.ref e_TooGreat) = true)
    (xi_TooGreat : PySem.W.findIn K (.ref e_TooGreat) "__init__" = some (some (.ref fiTooGreat)))
    (xf_TooGreat : PySem.W.typeIn K (.ref fiTooGreat) = some (.type "function"))
    (xl_TooGreat : K.lookup fiTooGreat = some ⟨ociTooGreat, odiTooGreat, .func (PySem.W.ksFn "__init__" "TooGreat.__init__" (defArgs s_TooGreat___init__) (defBody s_TooGreat___init__) (defScope s_TooGreat___init__) .none kViTooGreat dciTooGreat pmiTooGreat aniTooGreat (.ref cdaTooGreat) ctiTooGreat ccTooGreat), sliTooGreat⟩)
    (xo_TooGreat : PySem.W.codeIn K (.ref cdaTooGreat) "TooGreat.__init__" = true)
    (xd_TooGreat : K.lookup cdaTooGreat = some ⟨cclTooGreat, cddTooGreat, .fields vsTooGreat, ccsTooGreat⟩)
    (xv_TooGreat : vsTooGreat[2]? = some (.str filTooGreat tfTooGreat))
    (xp_TooGreat : ((P.main.file : Str) == filTooGreat) = true)
    (xe_TooGreat : K.lookup ccTooGreat = some ⟨clTooGreat, cldTooGreat, .cell (some (.ref e_TooGreat)), cslTooGreat⟩)
    (xu_TooGreat : PySem.W.ks_superIn K e_TooGreat e_TooGreat "__init__" = some (some (.builtin "ValueError.__init__")))
    (xw_TooGreat : PySem.W.subIn K (.ref e_TooGreat) (.type "ValueError") = some true)
    (xm_TooGreat : PySem.W.mroIn K e_TooGreat (.ref e_TooGreat) = some true)
    (xn_TooGreat : PySem.W.findIn K (.ref e_TooGreat) "most" = some none)
    (x_opq : PySem.W.nsIn K PySem.cStatics "thirdparty.any" = some none)
    (x_top : (P.main.scope.names.lookup ("super" : Str)).isSome = false)
    (xx_BadSpeed : PySem.W.excIn K e_BadSpeed [.type "ValueError", .type "Exception", .type "BaseException", .type "object"] "ValueError.__new__" = true)
    (kx_BadSpeed : PySem.W.keepIn K (.ref e_BadSpeed) = true)
    (bx_BadSpeed : PySem.W.subIn K (.ref e_BadSpeed) (.type "BaseException") = some true)
    (tx_BadSpeed : PySem.W.typeIn K (.ref e_BadSpeed) = some (.type "type"))
    (z_abs : PySem.W.nsIn K mainGlobals "abs" = some none)
    (z_all : PySem.W.nsIn K mainGlobals "all" = some none)
    (z_any : PySem.W.nsIn K mainGlobals "any" = some none)
    (z_bool : PySem.W.nsIn K mainGlobals "bool" = some none)
    (z_divmod : PySem.W.nsIn K mainGlobals "divmod" = some none)
    (z_enumerate : PySem.W.nsIn K mainGlobals "enumerate" = some none)
    (z_int : PySem.W.nsIn K mainGlobals "int" = some none)
    (z_isinstance : PySem.W.nsIn K mainGlobals "isinstance" = some none)
    (z_len : PySem.W.nsIn K mainGlobals "len" = some none)
    (z_list : PySem.W.nsIn K mainGlobals "list" = some none)
    (z_max : PySem.W.nsIn K mainGlobals "max" = some none)
    (z_min : PySem.W.nsIn K mainGlobals "min" = some none)
    (z_range : PySem.W.nsIn K mainGlobals "range" = some none)
    (z_repr : PySem.W.nsIn K mainGlobals "repr" = some none)
    (z_set : PySem.W.nsIn K mainGlobals "set" = some none)
    (z_sorted : PySem.W.nsIn K mainGlobals "sorted" = some none)
    (z_str : PySem.W.nsIn K mainGlobals "str" = some none)
    (z_sum : PySem.W.nsIn K mainGlobals "sum" = some none)
    (z_super : PySem.W.nsIn K mainGlobals "super" = some none)
    (z_tuple : PySem.W.nsIn K mainGlobals "tuple" = some none)
    (c_GREATEST : ∃ t, PySem.W.nsIn K mainGlobals "GREATEST" = some (some (.int 5040 t)))
    (c_GREATEST_HALF : ∃ t, PySem.W.nsIn K mainGlobals "GREATEST_HALF" = some (some (.int 1000 t)))
    (c_LETTERS : ∃ t, PySem.W.nsIn K mainGlobals "LETTERS" = some (some (.str "abcdefghijklmnopqrstuvwxyz" t)))
    (c_LONGEST_WORD : ∃ t, PySem.W.nsIn K mainGlobals "LONGEST_WORD" = some (some (.int 8 t)))
    (c_MOST_ENDS : ∃ t, PySem.W.nsIn K mainGlobals "MOST_ENDS" = some (some (.int 12 t)))
    (c_MOST_ROWS : ∃ t, PySem.W.nsIn K mainGlobals "MOST_ROWS" = some (some (.int 20 t)))
    (gc_Program : PySem.W.nsIn K mainGlobals "Program" = some (some (.ref o_Program)))
    (pg_Program : PySem.W.plainGet K o_Program Str.empty = true)
    (hd_Program : PySem.W.hasDictIn K o_Program = true)
    (po_Program : PySem.W.plainOver K o_Program = true)
    (sa_Program : PySem.W.findIn K (.ref o_Program) "__setattr__" = some (some (.builtin "object.__setattr__")))
    (mk_Program : PySem.W.makesIn K o_Program = true)
    (kc_Program : PySem.W.keepIn K (.ref o_Program) = true)
    (sf_Program : PySem.W.selfFirst K o_Program = true)
    (ic_Program : PySem.W.isClsIn K o_Program = true)
    (ty_Program : PySem.W.typeIn K (.ref o_Program) = some (.type "type"))
    (ktNoneType_Program : PySem.W.subIn K (.type "NoneType") (.ref o_Program) = some false)
    (ktbool_Program : PySem.W.subIn K (.type "bool") (.ref o_Program) = some false)
    (ktint_Program : PySem.W.subIn K (.type "int") (.ref o_Program) = some false)
    (ktstr_Program : PySem.W.subIn K (.type "str") (.ref o_Program) = some false)
    (kttuple_Program : PySem.W.subIn K (.type "tuple") (.ref o_Program) = some false)
    (ktlist_Program : PySem.W.subIn K (.type "list") (.ref o_Program) = some false)
    (ktdict_Program : PySem.W.subIn K (.type "dict") (.ref o_Program) = some false)
    (ca_Program : PySem.W.findIn K (.ref o_Program) "__class__" = some (some (.builtin "object.__class__")))
    (cn_Program : PySem.W.specialIn K (.builtin "object.__class__") "__get__" = some (some (.builtin "getset_descriptor.__get__")))
    (ct_Program : PySem.W.takesIn K (.builtin "object.__class__") = some true)
    (cm_Program : PySem.W.mroIn K o_Program (.type "object") = some true)
    (na_Program_p_halves : PySem.W.findIn K (.ref o_Program) "p_halves" = some none)
    (na_Program_p_rows : PySem.W.findIn K (.ref o_Program) "p_rows" = some none)
    (a0 : PySem.W.nsIn K mainGlobals "is_integer" = some (some (.ref f0)))
    (l0 : K.lookup f0 = some ⟨oc0, od0, .func (PySem.W.fnOf "is_integer" "is_integer" (defArgs s_is_integer) (defBody s_is_integer) (defScope s_is_integer) .none kV0 dc0 pm0 an0 cd0 ct0), sl0⟩)
    (c0 : PySem.W.codeIn K cd0 "is_integer" = true)
    (k0 : PySem.W.keepIn K (.ref f0) = true)
    (a1 : PySem.W.nsIn K mainGlobals "divisor" = some (some (.ref f1)))
    (l1 : K.lookup f1 = some ⟨oc1, od1, .func (PySem.W.fnOf "divisor" "divisor" (defArgs s_divisor) (defBody s_divisor) (defScope s_divisor) .none kV1 dc1 pm1 an1 cd1 ct1), sl1⟩)
    (c1 : PySem.W.codeIn K cd1 "divisor" = true)
    (k1 : PySem.W.keepIn K (.ref f1) = true)
    (a2 : PySem.W.nsIn K mainGlobals "is_word" = some (some (.ref f2)))
    (l2 : K.lookup f2 = some ⟨oc2, od2, .func (PySem.W.fnOf "is_word" "is_word" (defArgs s_is_word) (defBody s_is_word) (defScope s_is_word) .none kV2 dc2 pm2 an2 cd2 ct2), sl2⟩)
    (c2 : PySem.W.codeIn K cd2 "is_word" = true)
    (k2 : PySem.W.keepIn K (.ref f2) = true)
    (a3 : PySem.W.nsIn K mainGlobals "cell_of" = some (some (.ref f3)))
    (l3 : K.lookup f3 = some ⟨oc3, od3, .func (PySem.W.fnOf "cell_of" "cell_of" (defArgs s_cell_of) (defBody s_cell_of) (defScope s_cell_of) .none kV3 dc3 pm3 an3 cd3 ct3), sl3⟩)
    (c3 : PySem.W.codeIn K cd3 "cell_of" = true)
    (k3 : PySem.W.keepIn K (.ref f3) = true)
    (a4 : PySem.W.nsIn K mainGlobals "word_of" = some (some (.ref f4)))
    (l4 : K.lookup f4 = some ⟨oc4, od4, .func (PySem.W.fnOf "word_of" "word_of" (defArgs s_word_of) (defBody s_word_of) (defScope s_word_of) .none kV4 dc4 pm4 an4 cd4 ct4), sl4⟩)
    (c4 : PySem.W.codeIn K cd4 "word_of" = true)
    (k4 : PySem.W.keepIn K (.ref f4) = true)
    (a5 : PySem.W.nsIn K mainGlobals "speed_in" = some (some (.ref f5)))
    (l5 : K.lookup f5 = some ⟨oc5, od5, .func (PySem.W.fnOf "speed_in" "speed_in" (defArgs s_speed_in) (defBody s_speed_in) (defScope s_speed_in) .none kV5 dc5 pm5 an5 cd5 ct5), sl5⟩)
    (c5 : PySem.W.codeIn K cd5 "speed_in" = true)
    (k5 : PySem.W.keepIn K (.ref f5) = true)
    (a6 : PySem.W.nsIn K mainGlobals "_law_begin" = some (some (.ref f6)))
    (l6 : K.lookup f6 = some ⟨oc6, od6, .func (PySem.W.fnOf "_law_begin" "_law_begin" (defArgs s__law_begin) (defBody s__law_begin) (defScope s__law_begin) .none kV6 dc6 pm6 an6 cd6 ct6), sl6⟩)
    (c6 : PySem.W.codeIn K cd6 "_law_begin" = true)
    (k6 : PySem.W.keepIn K (.ref f6) = true)
    (a7 : PySem.W.nsIn K mainGlobals "_law_take" = some (some (.ref f7)))
    (l7 : K.lookup f7 = some ⟨oc7, od7, .func (PySem.W.fnOf "_law_take" "_law_take" (defArgs s__law_take) (defBody s__law_take) (defScope s__law_take) .none kV7 dc7 pm7 an7 cd7 ct7), sl7⟩)
    (c7 : PySem.W.codeIn K cd7 "_law_take" = true)
    (k7 : PySem.W.keepIn K (.ref f7) = true)
    (a8 : PySem.W.nsIn K mainGlobals "_law_fraction" = some (some (.ref f8)))
    (l8 : K.lookup f8 = some ⟨oc8, od8, .func (PySem.W.fnOf "_law_fraction" "_law_fraction" (defArgs s__law_fraction) (defBody s__law_fraction) (defScope s__law_fraction) .none kV8 dc8 pm8 an8 cd8 ct8), sl8⟩)
    (c8 : PySem.W.codeIn K cd8 "_law_fraction" = true)
    (k8 : PySem.W.keepIn K (.ref f8) = true)
    (a9 : PySem.W.nsIn K mainGlobals "_law_lcm" = some (some (.ref f9)))
    (l9 : K.lookup f9 = some ⟨oc9, od9, .func (PySem.W.fnOf "_law_lcm" "_law_lcm" (defArgs s__law_lcm) (defBody s__law_lcm) (defScope s__law_lcm) .none kV9 dc9 pm9 an9 cd9 ct9), sl9⟩)
    (c9 : PySem.W.codeIn K cd9 "_law_lcm" = true)
    (k9 : PySem.W.keepIn K (.ref f9) = true)
    (a10 : PySem.W.nsIn K mainGlobals "_law_cell" = some (some (.ref f10)))
    (l10 : K.lookup f10 = some ⟨oc10, od10, .func (PySem.W.fnOf "_law_cell" "_law_cell" (defArgs s__law_cell) (defBody s__law_cell) (defScope s__law_cell) .none kV10 dc10 pm10 an10 cd10 ct10), sl10⟩)
    (c10 : PySem.W.codeIn K cd10 "_law_cell" = true)
    (k10 : PySem.W.keepIn K (.ref f10) = true)
    (a11 : PySem.W.nsIn K mainGlobals "_law_told" = some (some (.ref f11)))
    (l11 : K.lookup f11 = some ⟨oc11, od11, .func (PySem.W.fnOf "_law_told" "_law_told" (defArgs s__law_told) (defBody s__law_told) (defScope s__law_told) .none kV11 dc11 pm11 an11 cd11 ct11), sl11⟩)
    (c11 : PySem.W.codeIn K cd11 "_law_told" = true)
    (k11 : PySem.W.keepIn K (.ref f11) = true)
    (a12 : PySem.W.nsIn K mainGlobals "_law_spots" = some (some (.ref f12)))
    (l12 : K.lookup f12 = some ⟨oc12, od12, .func (PySem.W.fnOf "_law_spots" "_law_spots" (defArgs s__law_spots) (defBody s__law_spots) (defScope s__law_spots) .none kV12 dc12 pm12 an12 cd12 ct12), sl12⟩)
    (c12 : PySem.W.codeIn K cd12 "_law_spots" = true)
    (k12 : PySem.W.keepIn K (.ref f12) = true)
    (a13 : PySem.W.nsIn K mainGlobals "_law_simplest" = some (some (.ref f13)))
    (l13 : K.lookup f13 = some ⟨oc13, od13, .func (PySem.W.fnOf "_law_simplest" "_law_simplest" (defArgs s__law_simplest) (defBody s__law_simplest) (defScope s__law_simplest) .none kV13 dc13 pm13 an13 cd13 ct13), sl13⟩)
    (c13 : PySem.W.codeIn K cd13 "_law_simplest" = true)
    (k13 : PySem.W.keepIn K (.ref f13) = true)
    (a14 : PySem.W.nsIn K mainGlobals "is_between" = some (some (.ref f14)))
    (l14 : K.lookup f14 = some ⟨oc14, od14, .func (PySem.W.fnOf "is_between" "is_between" (defArgs s_is_between) (defBody s_is_between) (defScope s_is_between) .none kV14 dc14 pm14 an14 cd14 ct14), sl14⟩)
    (c14 : PySem.W.codeIn K cd14 "is_between" = true)
    (k14 : PySem.W.keepIn K (.ref f14) = true)
    (a15 : PySem.W.nsIn K mainGlobals "multiple" = some (some (.ref f15)))
    (l15 : K.lookup f15 = some ⟨oc15, od15, .func (PySem.W.fnOf "multiple" "multiple" (defArgs s_multiple) (defBody s_multiple) (defScope s_multiple) .none kV15 dc15 pm15 an15 cd15 ct15), sl15⟩)
    (c15 : PySem.W.codeIn K cd15 "multiple" = true)
    (k15 : PySem.W.keepIn K (.ref f15) = true)
    (a16 : PySem.W.nsIn K mainGlobals "is_speed" = some (some (.ref f16)))
    (l16 : K.lookup f16 = some ⟨oc16, od16, .func (PySem.W.fnOf "is_speed" "is_speed" (defArgs s_is_speed) (defBody s_is_speed) (defScope s_is_speed) .none kV16 dc16 pm16 an16 cd16 ct16), sl16⟩)
    (c16 : PySem.W.codeIn K cd16 "is_speed" = true)
    (k16 : PySem.W.keepIn K (.ref f16) = true)
    (a17 : PySem.W.nsIn K mainGlobals "lowest" = some (some (.ref f17)))
    (l17 : K.lookup f17 = some ⟨oc17, od17, .func (PySem.W.fnOf "lowest" "lowest" (defArgs s_lowest) (defBody s_lowest) (defScope s_lowest) .none kV17 dc17 pm17 an17 cd17 ct17), sl17⟩)
    (c17 : PySem.W.codeIn K cd17 "lowest" = true)
    (k17 : PySem.W.keepIn K (.ref f17) = true)
    (a18 : PySem.W.nsIn K mainGlobals "simplest_of" = some (some (.ref f18)))
    (l18 : K.lookup f18 = some ⟨oc18, od18, .func (PySem.W.fnOf "simplest_of" "simplest_of" (defArgs s_simplest_of) (defBody s_simplest_of) (defScope s_simplest_of) .none kV18 dc18 pm18 an18 cd18 ct18), sl18⟩)
    (c18 : PySem.W.codeIn K cd18 "simplest_of" = true)
    (k18 : PySem.W.keepIn K (.ref f18) = true)
    (a19 : PySem.W.nsIn K mainGlobals "_law_pick" = some (some (.ref f19)))
    (l19 : K.lookup f19 = some ⟨oc19, od19, .func (PySem.W.fnOf "_law_pick" "_law_pick" (defArgs s__law_pick) (defBody s__law_pick) (defScope s__law_pick) .none kV19 dc19 pm19 an19 cd19 ct19), sl19⟩)
    (c19 : PySem.W.codeIn K cd19 "_law_pick" = true)
    (k19 : PySem.W.keepIn K (.ref f19) = true)
    (a20 : PySem.W.nsIn K mainGlobals "_law_seen" = some (some (.ref f20)))
    (l20 : K.lookup f20 = some ⟨oc20, od20, .func (PySem.W.fnOf "_law_seen" "_law_seen" (defArgs s__law_seen) (defBody s__law_seen) (defScope s__law_seen) .none kV20 dc20 pm20 an20 cd20 ct20), sl20⟩)
    (c20 : PySem.W.codeIn K cd20 "_law_seen" = true)
    (k20 : PySem.W.keepIn K (.ref f20) = true)
    (a21 : PySem.W.nsIn K mainGlobals "_law_whole" = some (some (.ref f21)))
    (l21 : K.lookup f21 = some ⟨oc21, od21, .func (PySem.W.fnOf "_law_whole" "_law_whole" (defArgs s__law_whole) (defBody s__law_whole) (defScope s__law_whole) .none kV21 dc21 pm21 an21 cd21 ct21), sl21⟩)
    (c21 : PySem.W.codeIn K cd21 "_law_whole" = true)
    (k21 : PySem.W.keepIn K (.ref f21) = true)
    (a22 : PySem.W.nsIn K mainGlobals "need_speed" = some (some (.ref f22)))
    (l22 : K.lookup f22 = some ⟨oc22, od22, .func (PySem.W.fnOf "need_speed" "need_speed" (defArgs s_need_speed) (defBody s_need_speed) (defScope s_need_speed) .none kV22 dc22 pm22 an22 cd22 ct22), sl22⟩)
    (c22 : PySem.W.codeIn K cd22 "need_speed" = true)
    (k22 : PySem.W.keepIn K (.ref f22) = true)
    (a23 : PySem.W.nsIn K mainGlobals "is_half" = some (some (.ref f23)))
    (l23 : K.lookup f23 = some ⟨oc23, od23, .func (PySem.W.fnOf "is_half" "is_half" (defArgs s_is_half) (defBody s_is_half) (defScope s_is_half) .none kV23 dc23 pm23 an23 cd23 ct23), sl23⟩)
    (c23 : PySem.W.codeIn K cd23 "is_half" = true)
    (k23 : PySem.W.keepIn K (.ref f23) = true)
    (a24 : PySem.W.nsIn K mainGlobals "folded" = some (some (.ref f24)))
    (l24 : K.lookup f24 = some ⟨oc24, od24, .func (PySem.W.fnOf "folded" "folded" (defArgs s_folded) (defBody s_folded) (defScope s_folded) .none kV24 dc24 pm24 an24 cd24 ct24), sl24⟩)
    (c24 : PySem.W.codeIn K cd24 "folded" = true)
    (k24 : PySem.W.keepIn K (.ref f24) = true)
    (a25 : PySem.W.nsIn K mainGlobals "are_ends" = some (some (.ref f25)))
    (l25 : K.lookup f25 = some ⟨oc25, od25, .func (PySem.W.fnOf "are_ends" "are_ends" (defArgs s_are_ends) (defBody s_are_ends) (defScope s_are_ends) .none kV25 dc25 pm25 an25 cd25 ct25), sl25⟩)
    (c25 : PySem.W.codeIn K cd25 "are_ends" = true)
    (k25 : PySem.W.keepIn K (.ref f25) = true)
    (a26 : PySem.W.nsIn K mainGlobals "need_small" = some (some (.ref f26)))
    (l26 : K.lookup f26 = some ⟨oc26, od26, .func (PySem.W.fnOf "need_small" "need_small" (defArgs s_need_small) (defBody s_need_small) (defScope s_need_small) .none kV26 dc26 pm26 an26 cd26 ct26), sl26⟩)
    (c26 : PySem.W.codeIn K cd26 "need_small" = true)
    (k26 : PySem.W.keepIn K (.ref f26) = true)
    (a27 : PySem.W.nsIn K mainGlobals "_law_half" = some (some (.ref f27)))
    (l27 : K.lookup f27 = some ⟨oc27, od27, .func (PySem.W.fnOf "_law_half" "_law_half" (defArgs s__law_half) (defBody s__law_half) (defScope s__law_half) .none kV27 dc27 pm27 an27 cd27 ct27), sl27⟩)
    (c27 : PySem.W.codeIn K cd27 "_law_half" = true)
    (k27 : PySem.W.keepIn K (.ref f27) = true)
    (a28 : PySem.W.nsIn K mainGlobals "_law_term" = some (some (.ref f28)))
    (l28 : K.lookup f28 = some ⟨oc28, od28, .func (PySem.W.fnOf "_law_term" "_law_term" (defArgs s__law_term) (defBody s__law_term) (defScope s__law_term) .none kV28 dc28 pm28 an28 cd28 ct28), sl28⟩)
    (c28 : PySem.W.codeIn K cd28 "_law_term" = true)
    (k28 : PySem.W.keepIn K (.ref f28) = true)
    (a29 : PySem.W.nsIn K mainGlobals "_law_ends" = some (some (.ref f29)))
    (l29 : K.lookup f29 = some ⟨oc29, od29, .func (PySem.W.fnOf "_law_ends" "_law_ends" (defArgs s__law_ends) (defBody s__law_ends) (defScope s__law_ends) .none kV29 dc29 pm29 an29 cd29 ct29), sl29⟩)
    (c29 : PySem.W.codeIn K cd29 "_law_ends" = true)
    (k29 : PySem.W.keepIn K (.ref f29) = true)
    (a30 : PySem.W.nsIn K mainGlobals "_law_path" = some (some (.ref f30)))
    (l30 : K.lookup f30 = some ⟨oc30, od30, .func (PySem.W.fnOf "_law_path" "_law_path" (defArgs s__law_path) (defBody s__law_path) (defScope s__law_path) .none kV30 dc30 pm30 an30 cd30 ct30), sl30⟩)
    (c30 : PySem.W.codeIn K cd30 "_law_path" = true)
    (k30 : PySem.W.keepIn K (.ref f30) = true)
    (a31 : PySem.W.nsIn K mainGlobals "_law_taken" = some (some (.ref f31)))
    (l31 : K.lookup f31 = some ⟨oc31, od31, .func (PySem.W.fnOf "_law_taken" "_law_taken" (defArgs s__law_taken) (defBody s__law_taken) (defScope s__law_taken) .none kV31 dc31 pm31 an31 cd31 ct31), sl31⟩)
    (c31 : PySem.W.codeIn K cd31 "_law_taken" = true)
    (k31 : PySem.W.keepIn K (.ref f31) = true)
    (a32 : PySem.W.nsIn K mainGlobals "is_row" = some (some (.ref f32)))
    (l32 : K.lookup f32 = some ⟨oc32, od32, .func (PySem.W.fnOf "is_row" "is_row" (defArgs s_is_row) (defBody s_is_row) (defScope s_is_row) .none kV32 dc32 pm32 an32 cd32 ct32), sl32⟩)
    (c32 : PySem.W.codeIn K cd32 "is_row" = true)
    (k32 : PySem.W.keepIn K (.ref f32) = true)
    (a33 : PySem.W.nsIn K mainGlobals "goal_of" = some (some (.ref f33)))
    (l33 : K.lookup f33 = some ⟨oc33, od33, .func (PySem.W.fnOf "goal_of" "goal_of" (defArgs s_goal_of) (defBody s_goal_of) (defScope s_goal_of) .none kV33 dc33 pm33 an33 cd33 ct33), sl33⟩)
    (c33 : PySem.W.codeIn K cd33 "goal_of" = true)
    (k33 : PySem.W.keepIn K (.ref f33) = true)
    (a34 : PySem.W.nsIn K mainGlobals "taken_by" = some (some (.ref f34)))
    (l34 : K.lookup f34 = some ⟨oc34, od34, .func (PySem.W.fnOf "taken_by" "taken_by" (defArgs s_taken_by) (defBody s_taken_by) (defScope s_taken_by) .none kV34 dc34 pm34 an34 cd34 ct34), sl34⟩)
    (c34 : PySem.W.codeIn K cd34 "taken_by" = true)
    (k34 : PySem.W.keepIn K (.ref f34) = true)
    (a35 : PySem.W.nsIn K mainGlobals "_law_halves" = some (some (.ref f35)))
    (l35 : K.lookup f35 = some ⟨oc35, od35, .func (PySem.W.fnOf "_law_halves" "_law_halves" (defArgs s__law_halves) (defBody s__law_halves) (defScope s__law_halves) .none kV35 dc35 pm35 an35 cd35 ct35), sl35⟩)
    (c35 : PySem.W.codeIn K cd35 "_law_halves" = true)
    (k35 : PySem.W.keepIn K (.ref f35) = true)
    (a36 : PySem.W.nsIn K mainGlobals "path_of" = some (some (.ref f36)))
    (l36 : K.lookup f36 = some ⟨oc36, od36, .func (PySem.W.fnOf "path_of" "path_of" (defArgs s_path_of) (defBody s_path_of) (defScope s_path_of) .none kV36 dc36 pm36 an36 cd36 ct36), sl36⟩)
    (c36 : PySem.W.codeIn K cd36 "path_of" = true)
    (k36 : PySem.W.keepIn K (.ref f36) = true)
    (a37 : PySem.W.findIn K (.ref o_Program) "__init__" = some (some (.ref f37)))
    (i37 : PySem.W.isFn K (.ref f37) = true)
    (l37 : K.lookup f37 = some ⟨oc37, od37, .func (PySem.W.fnOf "__init__" "Program.__init__" (defArgs s_Program___init__) (defBody s_Program___init__) (defScope s_Program___init__) .none kV37 dc37 pm37 an37 cd37 ct37), sl37⟩)
    (c37 : PySem.W.codeIn K cd37 "Program.__init__" = true)
    (k37 : PySem.W.keepIn K (.ref f37) = true)
    (a38 : PySem.W.nsIn K mainGlobals "_law_rows" = some (some (.ref f38)))
    (l38 : K.lookup f38 = some ⟨oc38, od38, .func (PySem.W.fnOf "_law_rows" "_law_rows" (defArgs s__law_rows) (defBody s__law_rows) (defScope s__law_rows) .none kV38 dc38 pm38 an38 cd38 ct38), sl38⟩)
    (c38 : PySem.W.codeIn K cd38 "_law_rows" = true)
    (k38 : PySem.W.keepIn K (.ref f38) = true)
    (a39 : PySem.W.findIn K (.ref o_Program) "__call__" = some (some (.ref f39)))
    (i39 : PySem.W.isFn K (.ref f39) = true)
    (l39 : K.lookup f39 = some ⟨oc39, od39, .func (PySem.W.fnOf "__call__" "Program.__call__" (defArgs s_Program___call__) (defBody s_Program___call__) (defScope s_Program___call__) .none kV39 dc39 pm39 an39 cd39 ct39), sl39⟩)
    (c39 : PySem.W.codeIn K cd39 "Program.__call__" = true)
    (k39 : PySem.W.keepIn K (.ref f39) = true)
    (a40 : PySem.W.nsIn K mainGlobals "regions_by_path" = some (some (.ref f40)))
    (l40 : K.lookup f40 = some ⟨oc40, od40, .func (PySem.W.fnOf "regions_by_path" "regions_by_path" (defArgs s_regions_by_path) (defBody s_regions_by_path) (defScope s_regions_by_path) .none kV40 dc40 pm40 an40 cd40 ct40), sl40⟩)
    (c40 : PySem.W.codeIn K cd40 "regions_by_path" = true)
    (k40 : PySem.W.keepIn K (.ref f40) = true)
    (a41 : PySem.W.nsIn K mainGlobals "most_looks" = some (some (.ref f41)))
    (l41 : K.lookup f41 = some ⟨oc41, od41, .func (PySem.W.fnOf "most_looks" "most_looks" (defArgs s_most_looks) (defBody s_most_looks) (defScope s_most_looks) .none kV41 dc41 pm41 an41 cd41 ct41), sl41⟩)
    (c41 : PySem.W.codeIn K cd41 "most_looks" = true)
    (k41 : PySem.W.keepIn K (.ref f41) = true)
    (a42 : PySem.W.nsIn K mainGlobals "untaken" = some (some (.ref f42)))
    (l42 : K.lookup f42 = some ⟨oc42, od42, .func (PySem.W.fnOf "untaken" "untaken" (defArgs s_untaken) (defBody s_untaken) (defScope s_untaken) .none kV42 dc42 pm42 an42 cd42 ct42), sl42⟩)
    (c42 : PySem.W.codeIn K cd42 "untaken" = true)
    (k42 : PySem.W.keepIn K (.ref f42) = true)
    (a43 : PySem.W.nsIn K mainGlobals "law" = some (some (.ref f43)))
    (l43 : K.lookup f43 = some ⟨oc43, od43, .func (PySem.W.fnOf "law" "law" (defArgs s_law) (defBody s_law) (defScope s_law) .none kV43 dc43 pm43 an43 cd43 ct43), sl43⟩)
    (c43 : PySem.W.codeIn K cd43 "law" = true)
    (k43 : PySem.W.keepIn K (.ref f43) = true)
    (a44 : PySem.W.findIn K (.ref o_Program) "halves" = some (some (.ref pp44)))
    (pa44 : PySem.W.specialIn K (.ref pp44) "__get__" = some (some (.builtin "property.__get__")))
    (pb44 : PySem.W.takesIn K (.ref pp44) = some true)
    (pc44 : ∃ rest, PySem.W.recIn K pp44 "property" = some (.ref f44 :: rest))
    (l44 : K.lookup f44 = some ⟨oc44, od44, .func (PySem.W.fnOf "halves" "Program.halves" (defArgs s_Program_halves) (defBody s_Program_halves) (defScope s_Program_halves) .none kV44 dc44 pm44 an44 cd44 ct44), sl44⟩)
    (c44 : PySem.W.codeIn K cd44 "Program.halves" = true)
    (k44 : PySem.W.keepIn K (.ref f44) = true)
    (a45 : PySem.W.findIn K (.ref o_Program) "rows" = some (some (.ref pp45)))
    (pa45 : PySem.W.specialIn K (.ref pp45) "__get__" = some (some (.builtin "property.__get__")))
    (pb45 : PySem.W.takesIn K (.ref pp45) = some true)
    (pc45 : ∃ rest, PySem.W.recIn K pp45 "property" = some (.ref f45 :: rest))
    (l45 : K.lookup f45 = some ⟨oc45, od45, .func (PySem.W.fnOf "rows" "Program.rows" (defArgs s_Program_rows) (defBody s_Program_rows) (defScope s_Program_rows) .none kV45 dc45 pm45 an45 cd45 ct45), sl45⟩)
    (c45 : PySem.W.codeIn K cd45 "Program.rows" = true)
    (k45 : PySem.W.keepIn K (.ref f45) = true)
    : ∃ fd : FuncData, (∀ (s : Shared) (u : Value), BindsTo s fd ⟨[u], []⟩ [("_law_script", u)]) ∧ ∀ base : Heap, K.In base → base.Ns mainGlobals mg → FnG P w K mg base 8 fa fd ["_law_script"] (toSp K 1 sp_law) := by
  have e := hfa.symm.trans (PySem.W.mg_of X G a43)
  cases e
  have F0 := fun_mk (st := s_is_integer) l0 c0 k0
  have D0 : DefT K mg "is_integer" s_is_integer ["thing"] f0 _ := ⟨F0, F0.binds (ps := ["thing"]) fun _ _ _ _ _ _ us hl => match us, hl with | [_], _ => rfl, PySem.W.mg_of X G a0⟩
  have F1 := fun_mk (st := s_divisor) l1 c1 k1
  have D1 : DefT K mg "divisor" s_divisor ["one", "other"] f1 _ := ⟨F1, F1.binds (ps := ["one", "other"]) fun _ _ _ _ _ _ us hl => match us, hl with | [_, _], _ => rfl, PySem.W.mg_of X G a1⟩
  have F2 := fun_mk (st := s_is_word) l2 c2 k2
  have D2 : DefT K mg "is_word" s_is_word ["thing"] f2 _ := ⟨F2, F2.binds (ps := ["thing"]) fun _ _ _ _ _ _ us hl => match us, hl with | [_], _ => rfl, PySem.W.mg_of X G a2⟩
  have F3 := fun_mk (st := s_cell_of) l3 c3 k3
  have D3 : DefT K mg "cell_of" s_cell_of ["ends", "found"] f3 _ := ⟨F3, F3.binds (ps := ["ends", "found"]) fun _ _ _ _ _ _ us hl => match us, hl with | [_, _], _ => rfl, PySem.W.mg_of X G a3⟩
  have F4 := fun_mk (st := s_word_of) l4 c4 k4
  have D4 : DefT K mg "word_of" s_word_of ["rows", "path"] f4 _ := ⟨F4, F4.binds (ps := ["rows", "path"]) fun _ _ _ _ _ _ us hl => match us, hl with | [_, _], _ => rfl, PySem.W.mg_of X G a4⟩
  have F5 := fun_mk (st := s_speed_in) l5 c5 k5
  have D5 : DefT K mg "speed_in" s_speed_in ["region"] f5 _ := ⟨F5, F5.binds (ps := ["region"]) fun _ _ _ _ _ _ us hl => match us, hl with | [_], _ => rfl, PySem.W.mg_of X G a5⟩
  have F6 := fun_mk (st := s__law_begin) l6 c6 k6
  have D6 : DefT K mg "_law_begin" s__law_begin ["_law_script"] f6 _ := ⟨F6, F6.binds (ps := ["_law_script"]) fun _ _ _ _ _ _ us hl => match us, hl with | [_], _ => rfl, PySem.W.mg_of X G a6⟩
  have F7 := fun_mk (st := s__law_take) l7 c7 k7
  have D7 : DefT K mg "_law_take" s__law_take ["_law_draw", "_law_size"] f7 _ := ⟨F7, F7.binds (ps := ["_law_draw", "_law_size"]) fun _ _ _ _ _ _ us hl => match us, hl with | [_, _], _ => rfl, PySem.W.mg_of X G a7⟩
  have F8 := fun_mk (st := s__law_fraction) l8 c8 k8
  have D8 : DefT K mg "_law_fraction" s__law_fraction ["_law_top", "_law_bottom"] f8 _ := ⟨F8, F8.binds (ps := ["_law_top", "_law_bottom"]) fun _ _ _ _ _ _ us hl => match us, hl with | [_, _], _ => rfl, PySem.W.mg_of X G a8⟩
  have F9 := fun_mk (st := s__law_lcm) l9 c9 k9
  have D9 : DefT K mg "_law_lcm" s__law_lcm ["_law_numbers"] f9 _ := ⟨F9, F9.binds (ps := ["_law_numbers"]) fun _ _ _ _ _ _ us hl => match us, hl with | [_], _ => rfl, PySem.W.mg_of X G a9⟩
  have F10 := fun_mk (st := s__law_cell) l10 c10 k10
  have D10 : DefT K mg "_law_cell" s__law_cell ["_law_ends_here", "_law_top", "_law_bottom"] f10 _ := ⟨F10, F10.binds (ps := ["_law_ends_here", "_law_top", "_law_bottom"]) fun _ _ _ _ _ _ us hl => match us, hl with | [_, _, _], _ => rfl, PySem.W.mg_of X G a10⟩
  have F11 := fun_mk (st := s__law_told) l11 c11 k11
  have D11 : DefT K mg "_law_told" s__law_told ["_law_rows_here", "_law_path_here"] f11 _ := ⟨F11, F11.binds (ps := ["_law_rows_here", "_law_path_here"]) fun _ _ _ _ _ _ us hl => match us, hl with | [_, _], _ => rfl, PySem.W.mg_of X G a11⟩
  have F12 := fun_mk (st := s__law_spots) l12 c12 k12
  have D12 : DefT K mg "_law_spots" s__law_spots ["_law_whole_here"] f12 _ := ⟨F12, F12.binds (ps := ["_law_whole_here"]) fun _ _ _ _ _ _ us hl => match us, hl with | [_], _ => rfl, PySem.W.mg_of X G a12⟩
  have F13 := fun_mk (st := s__law_simplest) l13 c13 k13
  have D13 : DefT K mg "_law_simplest" s__law_simplest ["_law_some"] f13 _ := ⟨F13, F13.binds (ps := ["_law_some"]) fun _ _ _ _ _ _ us hl => match us, hl with | [_], _ => rfl, PySem.W.mg_of X G a13⟩
  have F14 := fun_mk (st := s_is_between) l14 c14 k14
  have D14 : DefT K mg "is_between" s_is_between ["thing", "low", "high"] f14 _ := ⟨F14, F14.binds (ps := ["thing", "low", "high"]) fun _ _ _ _ _ _ us hl => match us, hl with | [_, _, _], _ => rfl, PySem.W.mg_of X G a14⟩
  have F15 := fun_mk (st := s_multiple) l15 c15 k15
  have D15 : DefT K mg "multiple" s_multiple ["numbers"] f15 _ := ⟨F15, F15.binds (ps := ["numbers"]) fun _ _ _ _ _ _ us hl => match us, hl with | [_], _ => rfl, PySem.W.mg_of X G a15⟩
  have F16 := fun_mk (st := s_is_speed) l16 c16 k16
  have D16 : DefT K mg "is_speed" s_is_speed ["thing"] f16 _ := ⟨F16, F16.binds (ps := ["thing"]) fun _ _ _ _ _ _ us hl => match us, hl with | [_], _ => rfl, PySem.W.mg_of X G a16⟩
  have F17 := fun_mk (st := s_lowest) l17 c17 k17
  have D17 : DefT K mg "lowest" s_lowest ["top", "bottom"] f17 _ := ⟨F17, F17.binds (ps := ["top", "bottom"]) fun _ _ _ _ _ _ us hl => match us, hl with | [_, _], _ => rfl, PySem.W.mg_of X G a17⟩
  have F18 := fun_mk (st := s_simplest_of) l18 c18 k18
  have D18 : DefT K mg "simplest_of" s_simplest_of ["regions"] f18 _ := ⟨F18, F18.binds (ps := ["regions"]) fun _ _ _ _ _ _ us hl => match us, hl with | [_], _ => rfl, PySem.W.mg_of X G a18⟩
  have F19 := fun_mk (st := s__law_pick) l19 c19 k19
  have D19 : DefT K mg "_law_pick" s__law_pick ["_law_draw", "_law_some"] f19 _ := ⟨F19, F19.binds (ps := ["_law_draw", "_law_some"]) fun _ _ _ _ _ _ us hl => match us, hl with | [_, _], _ => rfl, PySem.W.mg_of X G a19⟩
  have F20 := fun_mk (st := s__law_seen) l20 c20 k20
  have D20 : DefT K mg "_law_seen" s__law_seen ["_law_half_here", "_law_one"] f20 _ := ⟨F20, F20.binds (ps := ["_law_half_here", "_law_one"]) fun _ _ _ _ _ _ us hl => match us, hl with | [_, _], _ => rfl, PySem.W.mg_of X G a20⟩
  have F21 := fun_mk (st := s__law_whole) l21 c21 k21
  have D21 : DefT K mg "_law_whole" s__law_whole ["_law_rows_here"] f21 _ := ⟨F21, F21.binds (ps := ["_law_rows_here"]) fun _ _ _ _ _ _ us hl => match us, hl with | [_], _ => rfl, PySem.W.mg_of X G a21⟩
  have F22 := fun_mk (st := s_need_speed) l22 c22 k22
  have D22 : DefT K mg "need_speed" s_need_speed ["thing"] f22 _ := ⟨F22, F22.binds (ps := ["thing"]) fun _ _ _ _ _ _ us hl => match us, hl with | [_], _ => rfl, PySem.W.mg_of X G a22⟩
  have F23 := fun_mk (st := s_is_half) l23 c23 k23
  have D23 : DefT K mg "is_half" s_is_half ["thing"] f23 _ := ⟨F23, F23.binds (ps := ["thing"]) fun _ _ _ _ _ _ us hl => match us, hl with | [_], _ => rfl, PySem.W.mg_of X G a23⟩
  have F24 := fun_mk (st := s_folded) l24 c24 k24
  have D24 : DefT K mg "folded" s_folded ["half", "top", "bottom"] f24 _ := ⟨F24, F24.binds (ps := ["half", "top", "bottom"]) fun _ _ _ _ _ _ us hl => match us, hl with | [_, _, _], _ => rfl, PySem.W.mg_of X G a24⟩
  have F25 := fun_mk (st := s_are_ends) l25 c25 k25
  have D25 : DefT K mg "are_ends" s_are_ends ["thing", "half"] f25 _ := ⟨F25, F25.binds (ps := ["thing", "half"]) fun _ _ _ _ _ _ us hl => match us, hl with | [_, _], _ => rfl, PySem.W.mg_of X G a25⟩
  have F26 := fun_mk (st := s_need_small) l26 c26 k26
  have D26 : DefT K mg "need_small" s_need_small ["halves"] f26 _ := ⟨F26, F26.binds (ps := ["halves"]) fun _ _ _ _ _ _ us hl => match us, hl with | [_], _ => rfl, PySem.W.mg_of X G a26⟩
  have F27 := fun_mk (st := s__law_half) l27 c27 k27
  have D27 : DefT K mg "_law_half" s__law_half ["_law_draw"] f27 _ := ⟨F27, F27.binds (ps := ["_law_draw"]) fun _ _ _ _ _ _ us hl => match us, hl with | [_], _ => rfl, PySem.W.mg_of X G a27⟩
  have F28 := fun_mk (st := s__law_term) l28 c28 k28
  have D28 : DefT K mg "_law_term" s__law_term ["_law_draw"] f28 _ := ⟨F28, F28.binds (ps := ["_law_draw"]) fun _ _ _ _ _ _ us hl => match us, hl with | [_], _ => rfl, PySem.W.mg_of X G a28⟩
  have F29 := fun_mk (st := s__law_ends) l29 c29 k29
  have D29 : DefT K mg "_law_ends" s__law_ends ["_law_draw", "_law_half_here"] f29 _ := ⟨F29, F29.binds (ps := ["_law_draw", "_law_half_here"]) fun _ _ _ _ _ _ us hl => match us, hl with | [_, _], _ => rfl, PySem.W.mg_of X G a29⟩
  have F30 := fun_mk (st := s__law_path) l30 c30 k30
  have D30 : DefT K mg "_law_path" s__law_path ["_law_rows_here", "_law_one"] f30 _ := ⟨F30, F30.binds (ps := ["_law_rows_here", "_law_one"]) fun _ _ _ _ _ _ us hl => match us, hl with | [_, _], _ => rfl, PySem.W.mg_of X G a30⟩
  have F31 := fun_mk (st := s__law_taken) l31 c31 k31
  have D31 : DefT K mg "_law_taken" s__law_taken ["_law_rows_here", "_law_path_here", "_law_one"] f31 _ := ⟨F31, F31.binds (ps := ["_law_rows_here", "_law_path_here", "_law_one"]) fun _ _ _ _ _ _ us hl => match us, hl with | [_, _, _], _ => rfl, PySem.W.mg_of X G a31⟩
  have F32 := fun_mk (st := s_is_row) l32 c32 k32
  have D32 : DefT K mg "is_row" s_is_row ["thing", "many"] f32 _ := ⟨F32, F32.binds (ps := ["thing", "many"]) fun _ _ _ _ _ _ us hl => match us, hl with | [_, _], _ => rfl, PySem.W.mg_of X G a32⟩
  have F33 := fun_mk (st := s_goal_of) l33 c33 k33
  have D33 : DefT K mg "goal_of" s_goal_of ["row", "top", "bottom"] f33 _ := ⟨F33, F33.binds (ps := ["row", "top", "bottom"]) fun _ _ _ _ _ _ us hl => match us, hl with | [_, _, _], _ => rfl, PySem.W.mg_of X G a33⟩
  have F34 := fun_mk (st := s_taken_by) l34 c34 k34
  have D34 : DefT K mg "taken_by" s_taken_by ["rows", "path", "top", "bottom"] f34 _ := ⟨F34, F34.binds (ps := ["rows", "path", "top", "bottom"]) fun _ _ _ _ _ _ us hl => match us, hl with | [_, _, _, _], _ => rfl, PySem.W.mg_of X G a34⟩
  have F35 := fun_mk (st := s__law_halves) l35 c35 k35
  have D35 : DefT K mg "_law_halves" s__law_halves ["_law_draw", "_law_many", "_law_most"] f35 _ := ⟨F35, F35.binds (ps := ["_law_draw", "_law_many", "_law_most"]) fun _ _ _ _ _ _ us hl => match us, hl with | [_, _, _], _ => rfl, PySem.W.mg_of X G a35⟩
  have F36 := fun_mk (st := s_path_of) l36 c36 k36
  have D36 : DefT K mg "path_of" s_path_of ["rows", "top", "bottom"] f36 _ := ⟨F36, F36.binds (ps := ["rows", "top", "bottom"]) fun _ _ _ _ _ _ us hl => match us, hl with | [_, _, _], _ => rfl, PySem.W.mg_of X G a36⟩
  have F37 := fun_mk (st := s_Program___init__) l37 c37 k37
  have D37 : MethT K o_Program "__init__" "Program.__init__" s_Program___init__ ["self", "rows"] f37 _ := ⟨F37, F37.binds (ps := ["self", "rows"]) fun _ _ _ _ _ _ us hl => match us, hl with | [_, _], _ => rfl, a37, i37⟩
  have F38 := fun_mk (st := s__law_rows) l38 c38 k38
  have D38 : DefT K mg "_law_rows" s__law_rows ["_law_draw", "_law_most_of"] f38 _ := ⟨F38, F38.binds (ps := ["_law_draw", "_law_most_of"]) fun _ _ _ _ _ _ us hl => match us, hl with | [_, _], _ => rfl, PySem.W.mg_of X G a38⟩
  have F39 := fun_mk (st := s_Program___call__) l39 c39 k39
  have D39 : MethT K o_Program "__call__" "Program.__call__" s_Program___call__ ["self", "speed"] f39 _ := ⟨F39, F39.binds (ps := ["self", "speed"]) fun _ _ _ _ _ _ us hl => match us, hl with | [_, _], _ => rfl, a39, i39⟩
  have F40 := fun_mk (st := s_regions_by_path) l40 c40 k40
  have D40 : DefT K mg "regions_by_path" s_regions_by_path ["program"] f40 _ := ⟨F40, F40.binds (ps := ["program"]) fun _ _ _ _ _ _ us hl => match us, hl with | [_], _ => rfl, PySem.W.mg_of X G a40⟩
  have F41 := fun_mk (st := s_most_looks) l41 c41 k41
  have D41 : DefT K mg "most_looks" s_most_looks ["program"] f41 _ := ⟨F41, F41.binds (ps := ["program"]) fun _ _ _ _ _ _ us hl => match us, hl with | [_], _ => rfl, PySem.W.mg_of X G a41⟩
  have F42 := fun_mk (st := s_untaken) l42 c42 k42
  have D42 : DefT K mg "untaken" s_untaken ["program"] f42 _ := ⟨F42, F42.binds (ps := ["program"]) fun _ _ _ _ _ _ us hl => match us, hl with | [_], _ => rfl, PySem.W.mg_of X G a42⟩
  have F43 := fun_mk (st := s_law) l43 c43 k43
  have D43 : DefT K mg "law" s_law ["_law_script"] fa _ := ⟨F43, F43.binds (ps := ["_law_script"]) fun _ _ _ _ _ _ us hl => match us, hl with | [_], _ => rfl, PySem.W.mg_of X G a43⟩
  have F44 := fun_mk (st := s_Program_halves) l44 c44 k44
  have D44 : PropT K o_Program "halves" "Program.halves" s_Program_halves f44 _ := ⟨F44, F44.binds (ps := ["self"]) fun _ _ _ _ _ _ us hl => match us, hl with | [_], _ => rfl, pp44, a44, pa44, pb44, pc44⟩
  have F45 := fun_mk (st := s_Program_rows) l45 c45 k45
  have D45 : PropT K o_Program "rows" "Program.rows" s_Program_rows f45 _ := ⟨F45, F45.binds (ps := ["self"]) fun _ _ _ _ _ _ us hl => match us, hl with | [_], _ => rfl, pp45, a45, pa45, pb45, pc45⟩
  have T : Txt K mg P ⟨e_BadSpeed, 0, 0, 0, 0, 0, 0, e_TooGreat, 0, 0, 0, e_BadProgram, 0, 0, 0, 0, 0, 0, 0, 0, o_Program, 0, 0, 0, 0, (fun _ => 0), w⟩ ⟨(f0, (PySem.W.fnOf "is_integer" "is_integer" (defArgs s_is_integer) (defBody s_is_integer) (defScope s_is_integer) .none kV0 dc0 pm0 an0 cd0 ct0)), (f1, (PySem.W.fnOf "divisor" "divisor" (defArgs s_divisor) (defBody s_divisor) (defScope s_divisor) .none kV1 dc1 pm1 an1 cd1 ct1)), (f2, (PySem.W.fnOf "is_word" "is_word" (defArgs s_is_word) (defBody s_is_word) (defScope s_is_word) .none kV2 dc2 pm2 an2 cd2 ct2)), (f3, (PySem.W.fnOf "cell_of" "cell_of" (defArgs s_cell_of) (defBody s_cell_of) (defScope s_cell_of) .none kV3 dc3 pm3 an3 cd3 ct3)), (f4, (PySem.W.fnOf "word_of" "word_of" (defArgs s_word_of) (defBody s_word_of) (defScope s_word_of) .none kV4 dc4 pm4 an4 cd4 ct4)), (f5, (PySem.W.fnOf "speed_in" "speed_in" (defArgs s_speed_in) (defBody s_speed_in) (defScope s_speed_in) .none kV5 dc5 pm5 an5 cd5 ct5)), (f6, (PySem.W.fnOf "_law_begin" "_law_begin" (defArgs s__law_begin) (defBody s__law_begin) (defScope s__law_begin) .none kV6 dc6 pm6 an6 cd6 ct6)), (f7, (PySem.W.fnOf "_law_take" "_law_take" (defArgs s__law_take) (defBody s__law_take) (defScope s__law_take) .none kV7 dc7 pm7 an7 cd7 ct7)), (f8, (PySem.W.fnOf "_law_fraction" "_law_fraction" (defArgs s__law_fraction) (defBody s__law_fraction) (defScope s__law_fraction) .none kV8 dc8 pm8 an8 cd8 ct8)), (f9, (PySem.W.fnOf "_law_lcm" "_law_lcm" (defArgs s__law_lcm) (defBody s__law_lcm) (defScope s__law_lcm) .none kV9 dc9 pm9 an9 cd9 ct9)), (f10, (PySem.W.fnOf "_law_cell" "_law_cell" (defArgs s__law_cell) (defBody s__law_cell) (defScope s__law_cell) .none kV10 dc10 pm10 an10 cd10 ct10)), (f11, (PySem.W.fnOf "_law_told" "_law_told" (defArgs s__law_told) (defBody s__law_told) (defScope s__law_told) .none kV11 dc11 pm11 an11 cd11 ct11)), (f12, (PySem.W.fnOf "_law_spots" "_law_spots" (defArgs s__law_spots) (defBody s__law_spots) (defScope s__law_spots) .none kV12 dc12 pm12 an12 cd12 ct12)), (f13, (PySem.W.fnOf "_law_simplest" "_law_simplest" (defArgs s__law_simplest) (defBody s__law_simplest) (defScope s__law_simplest) .none kV13 dc13 pm13 an13 cd13 ct13)), (f14, (PySem.W.fnOf "is_between" "is_between" (defArgs s_is_between) (defBody s_is_between) (defScope s_is_between) .none kV14 dc14 pm14 an14 cd14 ct14)), (f15, (PySem.W.fnOf "multiple" "multiple" (defArgs s_multiple) (defBody s_multiple) (defScope s_multiple) .none kV15 dc15 pm15 an15 cd15 ct15)), (f16, (PySem.W.fnOf "is_speed" "is_speed" (defArgs s_is_speed) (defBody s_is_speed) (defScope s_is_speed) .none kV16 dc16 pm16 an16 cd16 ct16)), (f17, (PySem.W.fnOf "lowest" "lowest" (defArgs s_lowest) (defBody s_lowest) (defScope s_lowest) .none kV17 dc17 pm17 an17 cd17 ct17)), (f18, (PySem.W.fnOf "simplest_of" "simplest_of" (defArgs s_simplest_of) (defBody s_simplest_of) (defScope s_simplest_of) .none kV18 dc18 pm18 an18 cd18 ct18)), (f19, (PySem.W.fnOf "_law_pick" "_law_pick" (defArgs s__law_pick) (defBody s__law_pick) (defScope s__law_pick) .none kV19 dc19 pm19 an19 cd19 ct19)), (f20, (PySem.W.fnOf "_law_seen" "_law_seen" (defArgs s__law_seen) (defBody s__law_seen) (defScope s__law_seen) .none kV20 dc20 pm20 an20 cd20 ct20)), (f21, (PySem.W.fnOf "_law_whole" "_law_whole" (defArgs s__law_whole) (defBody s__law_whole) (defScope s__law_whole) .none kV21 dc21 pm21 an21 cd21 ct21)), (f22, (PySem.W.fnOf "need_speed" "need_speed" (defArgs s_need_speed) (defBody s_need_speed) (defScope s_need_speed) .none kV22 dc22 pm22 an22 cd22 ct22)), (f23, (PySem.W.fnOf "is_half" "is_half" (defArgs s_is_half) (defBody s_is_half) (defScope s_is_half) .none kV23 dc23 pm23 an23 cd23 ct23)), (f24, (PySem.W.fnOf "folded" "folded" (defArgs s_folded) (defBody s_folded) (defScope s_folded) .none kV24 dc24 pm24 an24 cd24 ct24)), (f25, (PySem.W.fnOf "are_ends" "are_ends" (defArgs s_are_ends) (defBody s_are_ends) (defScope s_are_ends) .none kV25 dc25 pm25 an25 cd25 ct25)), (f26, (PySem.W.fnOf "need_small" "need_small" (defArgs s_need_small) (defBody s_need_small) (defScope s_need_small) .none kV26 dc26 pm26 an26 cd26 ct26)), (f27, (PySem.W.fnOf "_law_half" "_law_half" (defArgs s__law_half) (defBody s__law_half) (defScope s__law_half) .none kV27 dc27 pm27 an27 cd27 ct27)), (f28, (PySem.W.fnOf "_law_term" "_law_term" (defArgs s__law_term) (defBody s__law_term) (defScope s__law_term) .none kV28 dc28 pm28 an28 cd28 ct28)), (f29, (PySem.W.fnOf "_law_ends" "_law_ends" (defArgs s__law_ends) (defBody s__law_ends) (defScope s__law_ends) .none kV29 dc29 pm29 an29 cd29 ct29)), (f30, (PySem.W.fnOf "_law_path" "_law_path" (defArgs s__law_path) (defBody s__law_path) (defScope s__law_path) .none kV30 dc30 pm30 an30 cd30 ct30)), (f31, (PySem.W.fnOf "_law_taken" "_law_taken" (defArgs s__law_taken) (defBody s__law_taken) (defScope s__law_taken) .none kV31 dc31 pm31 an31 cd31 ct31)), (f32, (PySem.W.fnOf "is_row" "is_row" (defArgs s_is_row) (defBody s_is_row) (defScope s_is_row) .none kV32 dc32 pm32 an32 cd32 ct32)), (f33, (PySem.W.fnOf "goal_of" "goal_of" (defArgs s_goal_of) (defBody s_goal_of) (defScope s_goal_of) .none kV33 dc33 pm33 an33 cd33 ct33)), (f34, (PySem.W.fnOf "taken_by" "taken_by" (defArgs s_taken_by) (defBody s_taken_by) (defScope s_taken_by) .none kV34 dc34 pm34 an34 cd34 ct34)), (f35, (PySem.W.fnOf "_law_halves" "_law_halves" (defArgs s__law_halves) (defBody s__law_halves) (defScope s__law_halves) .none kV35 dc35 pm35 an35 cd35 ct35)), (f36, (PySem.W.fnOf "path_of" "path_of" (defArgs s_path_of) (defBody s_path_of) (defScope s_path_of) .none kV36 dc36 pm36 an36 cd36 ct36)), (f37, (PySem.W.fnOf "__init__" "Program.__init__" (defArgs s_Program___init__) (defBody s_Program___init__) (defScope s_Program___init__) .none kV37 dc37 pm37 an37 cd37 ct37)), (f38, (PySem.W.fnOf "_law_rows" "_law_rows" (defArgs s__law_rows) (defBody s__law_rows) (defScope s__law_rows) .none kV38 dc38 pm38 an38 cd38 ct38)), (f39, (PySem.W.fnOf "__call__" "Program.__call__" (defArgs s_Program___call__) (defBody s_Program___call__) (defScope s_Program___call__) .none kV39 dc39 pm39 an39 cd39 ct39)), (f40, (PySem.W.fnOf "regions_by_path" "regions_by_path" (defArgs s_regions_by_path) (defBody s_regions_by_path) (defScope s_regions_by_path) .none kV40 dc40 pm40 an40 cd40 ct40)), (f41, (PySem.W.fnOf "most_looks" "most_looks" (defArgs s_most_looks) (defBody s_most_looks) (defScope s_most_looks) .none kV41 dc41 pm41 an41 cd41 ct41)), (f42, (PySem.W.fnOf "untaken" "untaken" (defArgs s_untaken) (defBody s_untaken) (defScope s_untaken) .none kV42 dc42 pm42 an42 cd42 ct42)), (fa, (PySem.W.fnOf "law" "law" (defArgs s_law) (defBody s_law) (defScope s_law) .none kV43 dc43 pm43 an43 cd43 ct43)), (f44, (PySem.W.fnOf "halves" "Program.halves" (defArgs s_Program_halves) (defBody s_Program_halves) (defScope s_Program_halves) .none kV44 dc44 pm44 an44 cd44 ct44)), (f45, (PySem.W.fnOf "rows" "Program.rows" (defArgs s_Program_rows) (defBody s_Program_rows) (defScope s_Program_rows) .none kV45 dc45 pm45 an45 cd45 ct45))⟩ := ⟨PySem.W.mg_none_of X G z_abs, PySem.W.mg_none_of X G z_all, PySem.W.mg_none_of X G z_any, PySem.W.mg_none_of X G z_bool, PySem.W.mg_none_of X G z_divmod, PySem.W.mg_none_of X G z_enumerate, PySem.W.mg_none_of X G z_int, PySem.W.mg_none_of X G z_isinstance, PySem.W.mg_none_of X G z_len, PySem.W.mg_none_of X G z_list, PySem.W.mg_none_of X G z_max, PySem.W.mg_none_of X G z_min, PySem.W.mg_none_of X G z_range, PySem.W.mg_none_of X G z_repr, PySem.W.mg_none_of X G z_set, PySem.W.mg_none_of X G z_sorted, PySem.W.mg_none_of X G z_str, PySem.W.mg_none_of X G z_sum, PySem.W.mg_none_of X G z_super, PySem.W.mg_none_of X G z_tuple, c_GREATEST.elim fun t h => ⟨t, PySem.W.mg_of X G h⟩, c_GREATEST_HALF.elim fun t h => ⟨t, PySem.W.mg_of X G h⟩, c_LETTERS.elim fun t h => ⟨t, PySem.W.mg_of X G h⟩, c_LONGEST_WORD.elim fun t h => ⟨t, PySem.W.mg_of X G h⟩, c_MOST_ENDS.elim fun t h => ⟨t, PySem.W.mg_of X G h⟩, c_MOST_ROWS.elim fun t h => ⟨t, PySem.W.mg_of X G h⟩, ⟨PySem.W.mg_of X G gx_BadSpeed, xx_BadSpeed, kx_BadSpeed, bx_BadSpeed, tx_BadSpeed⟩, ⟨PySem.W.mg_of X G gx_BadProgram, PySem.W.mg_none_of X G z_super, ⟨⟨nmBadProgram, qnBadProgram, NCBadProgram, bsBadProgram, bmBadProgram, snBadProgram, subBadProgram, abBadProgram, colBadProgram, ddBadProgram, k0BadProgram, k1BadProgram, k2BadProgram, k3BadProgram, k5BadProgram, xc_BadProgram, xr_BadProgram⟩, xs_BadProgram, xb_BadProgram, xt_BadProgram, xk_BadProgram⟩, fiBadProgram, _, initA_mk iw_BadProgram xl_BadProgram xo_BadProgram xd_BadProgram xv_BadProgram xp_BadProgram xe_BadProgram xu_BadProgram xw_BadProgram xm_BadProgram x_opq xn_BadProgram x_top, xi_BadProgram, xf_BadProgram⟩, ⟨PySem.W.mg_of X G gx_TooGreat, PySem.W.mg_none_of X G z_super, ⟨⟨nmTooGreat, qnTooGreat, NCTooGreat, bsTooGreat, bmTooGreat, snTooGreat, subTooGreat, abTooGreat, colTooGreat, ddTooGreat, k0TooGreat, k1TooGreat, k2TooGreat, k3TooGreat, k5TooGreat, xc_TooGreat, xr_TooGreat⟩, xs_TooGreat, xb_TooGreat, xt_TooGreat, xk_TooGreat⟩, fiTooGreat, _, initA_mk iw_TooGreat xl_TooGreat xo_TooGreat xd_TooGreat xv_TooGreat xp_TooGreat xe_TooGreat xu_TooGreat xw_TooGreat xm_TooGreat x_opq xn_TooGreat x_top, xi_TooGreat, xf_TooGreat⟩, ⟨PySem.W.mg_of X G gc_Program, mk_Program, kc_Program, sf_Program, ⟨kit_self, by simp only [tys, List.mem_cons, List.not_mem_nil, or_false, forall_eq_or_imp, forall_eq]; exact ⟨kit_not ic_Program ty_Program ktNoneType_Program, kit_not ic_Program ty_Program ktbool_Program, kit_not ic_Program ty_Program ktint_Program, kit_not ic_Program ty_Program ktstr_Program, kit_not ic_Program ty_Program kttuple_Program, kit_not ic_Program ty_Program ktlist_Program, kit_not ic_Program ty_Program ktdict_Program⟩, ⟨pg_Program, hd_Program, po_Program, sa_Program⟩, ca_Program, cn_Program, ct_Program, cm_Program⟩⟩, na_Program_p_halves, na_Program_p_rows, D0, D1, D2, D3, D4, D5, D6, D7, D8, D9, D10, D11, D12, D13, D14, D15, D16, D17, D18, D19, D20, D21, D22, D23, D24, D25, D26, D27, D28, D29, D30, D31, D32, D33, D34, D35, D36, D37, D38, D39, D40, D41, D42, D43, D44, D45⟩
  exact ⟨(PySem.W.fnOf "law" "law" (defArgs s_law) (defBody s_law) (defScope s_law) .none kV43 dc43 pm43 an43 cd43 ct43), fun s u => .of_eq rfl, fun base _ _ => ok_law T⟩
end Px
open PySem PySem.W PyProof.Rows
set_option maxHeartbeats 0 in
theorem PySem.Challenge.cw_flashfolds_k52_most_looks_of_programs_holds : PySem.Challenge.rw_flashfolds_k52_most_looks_of_programs.Holds := by
  w_on; o_law; k_head; (case hw => w_witness2)
  k_fill
  refine Px.walk_g (l := PySem.Challenge.rw_flashfolds_k52_most_looks_of_programs) (k := 8) (x := "_law_script") rfl rfl ⟨rfl, by decide, by decide⟩ (fun w h Y => PySem.W.kIn_of Y) ?G
  case G =>
    intro w mg fa h KX G hmg
    refine' Px.all_mk KX G hmg ?gx_BadProgram ?gx_BadSpeed ?gx_TooGreat ?xc_BadProgram ?xr_BadProgram ?xs_BadProgram ?xb_BadProgram ?xt_BadProgram ?xk_BadProgram ?xi_BadProgram ?xf_BadProgram ?xl_BadProgram ?xo_BadProgram ?xd_BadProgram ?xv_BadProgram ?xp_BadProgram ?xe_BadProgram ?xu_BadProgram ?xw_BadProgram ?xm_BadProgram ?xn_BadProgram ?xc_TooGreat ?xr_TooGreat ?xs_TooGreat ?xb_TooGreat ?xt_TooGreat ?xk_TooGreat ?xi_TooGreat ?xf_TooGreat ?xl_TooGreat ?xo_TooGreat ?xd_TooGreat ?xv_TooGreat ?xp_TooGreat ?xe_TooGreat ?xu_TooGreat ?xw_TooGreat ?xm_TooGreat ?xn_TooGreat ?x_opq ?x_top ?xx_BadSpeed ?kx_BadSpeed ?bx_BadSpeed ?tx_BadSpeed ?z_abs ?z_all ?z_any ?z_bool ?z_divmod ?z_enumerate ?z_int ?z_isinstance ?z_len ?z_list ?z_max ?z_min ?z_range ?z_repr ?z_set ?z_sorted ?z_str ?z_sum ?z_super ?z_tuple ?c_GREATEST ?c_GREATEST_HALF ?c_LETTERS ?c_LONGEST_WORD ?c_MOST_ENDS ?c_MOST_ROWS ?gc_Program ?pg_Program ?hd_Program ?po_Program ?sa_Program ?mk_Program ?kc_Program ?sf_Program ?ic_Program ?ty_Program ?ktNoneType_Program ?ktbool_Program ?ktint_Program ?ktstr_Program ?kttuple_Program ?ktlist_Program ?ktdict_Program ?ca_Program ?cn_Program ?ct_Program ?cm_Program ?na_Program_p_halves ?na_Program_p_rows ?a0 ?l0 ?c0 ?k0 ?a1 ?l1 ?c1 ?k1 ?a2 ?l2 ?c2 ?k2 ?a3 ?l3 ?c3 ?k3 ?a4 ?l4 ?c4 ?k4 ?a5 ?l5 ?c5 ?k5 ?a6 ?l6 ?c6 ?k6 ?a7 ?l7 ?c7 ?k7 ?a8 ?l8 ?c8 ?k8 ?a9 ?l9 ?c9 ?k9 ?a10 ?l10 ?c10 ?k10 ?a11 ?l11 ?c11 ?k11 ?a12 ?l12 ?c12 ?k12 ?a13 ?l13 ?c13 ?k13 ?a14 ?l14 ?c14 ?k14 ?a15 ?l15 ?c15 ?k15 ?a16 ?l16 ?c16 ?k16 ?a17 ?l17 ?c17 ?k17 ?a18 ?l18 ?c18 ?k18 ?a19 ?l19 ?c19 ?k19 ?a20 ?l20 ?c20 ?k20 ?a21 ?l21 ?c21 ?k21 ?a22 ?l22 ?c22 ?k22 ?a23 ?l23 ?c23 ?k23 ?a24 ?l24 ?c24 ?k24 ?a25 ?l25 ?c25 ?k25 ?a26 ?l26 ?c26 ?k26 ?a27 ?l27 ?c27 ?k27 ?a28 ?l28 ?c28 ?k28 ?a29 ?l29 ?c29 ?k29 ?a30 ?l30 ?c30 ?k30 ?a31 ?l31 ?c31 ?k31 ?a32 ?l32 ?c32 ?k32 ?a33 ?l33 ?c33 ?k33 ?a34 ?l34 ?c34 ?k34 ?a35 ?l35 ?c35 ?k35 ?a36 ?l36 ?c36 ?k36 ?a37 ?i37 ?l37 ?c37 ?k37 ?a38 ?l38 ?c38 ?k38 ?a39 ?i39 ?l39 ?c39 ?k39 ?a40 ?l40 ?c40 ?k40 ?a41 ?l41 ?c41 ?k41 ?a42 ?l42 ?c42 ?k42 ?a43 ?l43 ?c43 ?k43 ?a44 ?pa44 ?pb44 ?pc44 ?l44 ?c44 ?k44 ?a45 ?pa45 ?pb45 ?pc45 ?l45 ?c45 ?k45
    (case gx_BadProgram => k_is)
    (case gx_BadSpeed => k_is)
    (case gx_TooGreat => k_is)
    (case xc_BadProgram => k_is)
    (case xr_BadProgram => decide +kernel)
    (case xs_BadProgram => k_is)
    (case xb_BadProgram => k_is)
    (case xt_BadProgram => k_is)
    (case xk_BadProgram => k_is)
    (case xi_BadProgram => k_is)
    (case xf_BadProgram => k_is)
    (case xl_BadProgram => k_is)
    (case xo_BadProgram => k_is)
    (case xd_BadProgram => k_is)
    (case xv_BadProgram => exact rfl)
    (case xp_BadProgram => first | exact rfl | decide +kernel)
    (case xe_BadProgram => k_is)
    (case xu_BadProgram => kernel_rfl)
    (case xw_BadProgram => k_is)
    (case xm_BadProgram => kernel_rfl)
    (case xn_BadProgram => k_is)
    (case xc_TooGreat => k_is)
    (case xr_TooGreat => decide +kernel)
    (case xs_TooGreat => k_is)
    (case xb_TooGreat => k_is)
    (case xt_TooGreat => k_is)
    (case xk_TooGreat => k_is)
    (case xi_TooGreat => k_is)
    (case xf_TooGreat => k_is)
    (case xl_TooGreat => k_is)
    (case xo_TooGreat => k_is)
    (case xd_TooGreat => k_is)
    (case xv_TooGreat => exact rfl)
    (case xp_TooGreat => first | exact rfl | decide +kernel)
    (case xe_TooGreat => k_is)
    (case xu_TooGreat => kernel_rfl)
    (case xw_TooGreat => k_is)
    (case xm_TooGreat => kernel_rfl)
    (case xn_TooGreat => k_is)
    (case x_opq => k_is)
    (case x_top => first | exact rfl | decide +kernel)
    (case xx_BadSpeed => k_exc)
    (case kx_BadSpeed => k_is)
    (case bx_BadSpeed => k_is)
    (case tx_BadSpeed => k_is)
    (case z_abs => k_is)
    (case z_all => k_is)
    (case z_any => k_is)
    (case z_bool => k_is)
    (case z_divmod => k_is)
    (case z_enumerate => k_is)
    (case z_int => k_is)
    (case z_isinstance => k_is)
    (case z_len => k_is)
    (case z_list => k_is)
    (case z_max => k_is)
    (case z_min => k_is)
    (case z_range => k_is)
    (case z_repr => k_is)
    (case z_set => k_is)
    (case z_sorted => k_is)
    (case z_str => k_is)
    (case z_sum => k_is)
    (case z_super => k_is)
    (case z_tuple => k_is)
    (case c_GREATEST => exact ⟨_, by k_is⟩)
    (case c_GREATEST_HALF => exact ⟨_, by k_is⟩)
    (case c_LETTERS => exact ⟨_, by k_is⟩)
    (case c_LONGEST_WORD => exact ⟨_, by k_is⟩)
    (case c_MOST_ENDS => exact ⟨_, by k_is⟩)
    (case c_MOST_ROWS => exact ⟨_, by k_is⟩)
    (case gc_Program => k_is)
    (case pg_Program => k_is)
    (case hd_Program => k_is)
    (case po_Program => k_is)
    (case sa_Program => k_is)
    (case mk_Program => k_is)
    (case kc_Program => k_is)
    (case sf_Program => k_is)
    (case ic_Program => k_is)
    (case ty_Program => k_is)
    (case ktNoneType_Program => k_is)
    (case ktbool_Program => k_is)
    (case ktint_Program => k_is)
    (case ktstr_Program => k_is)
    (case kttuple_Program => k_is)
    (case ktlist_Program => k_is)
    (case ktdict_Program => k_is)
    (case ca_Program => k_is)
    (case cn_Program => k_is)
    (case ct_Program => k_is)
    (case cm_Program => k_is)
    (case na_Program_p_halves => k_is)
    (case na_Program_p_rows => k_is)
    (case a0 => k_is)
    (case l0 => k_is)
    (case c0 => k_is)
    (case k0 => k_is)
    (case a1 => k_is)
    (case l1 => k_is)
    (case c1 => k_is)
    (case k1 => k_is)
    (case a2 => k_is)
    (case l2 => k_is)
    (case c2 => k_is)
    (case k2 => k_is)
    (case a3 => k_is)
    (case l3 => k_is)
    (case c3 => k_is)
    (case k3 => k_is)
    (case a4 => k_is)
    (case l4 => k_is)
    (case c4 => k_is)
    (case k4 => k_is)
    (case a5 => k_is)
    (case l5 => k_is)
    (case c5 => k_is)
    (case k5 => k_is)
    (case a6 => k_is)
    (case l6 => k_is)
    (case c6 => k_is)
    (case k6 => k_is)
    (case a7 => k_is)
    (case l7 => k_is)
    (case c7 => k_is)
    (case k7 => k_is)
    (case a8 => k_is)
    (case l8 => k_is)
    (case c8 => k_is)
    (case k8 => k_is)
    (case a9 => k_is)
    (case l9 => k_is)
    (case c9 => k_is)
    (case k9 => k_is)
    (case a10 => k_is)
    (case l10 => k_is)
    (case c10 => k_is)
    (case k10 => k_is)
    (case a11 => k_is)
    (case l11 => k_is)
    (case c11 => k_is)
    (case k11 => k_is)
    (case a12 => k_is)
    (case l12 => k_is)
    (case c12 => k_is)
    (case k12 => k_is)
    (case a13 => k_is)
    (case l13 => k_is)
    (case c13 => k_is)
    (case k13 => k_is)
    (case a14 => k_is)
    (case l14 => k_is)
    (case c14 => k_is)
    (case k14 => k_is)
    (case a15 => k_is)
    (case l15 => k_is)
    (case c15 => k_is)
    (case k15 => k_is)
    (case a16 => k_is)
    (case l16 => k_is)
    (case c16 => k_is)
    (case k16 => k_is)
    (case a17 => k_is)
    (case l17 => k_is)
    (case c17 => k_is)
    (case k17 => k_is)
    (case a18 => k_is)
    (case l18 => k_is)
    (case c18 => k_is)
    (case k18 => k_is)
    (case a19 => k_is)
    (case l19 => k_is)
    (case c19 => k_is)
    (case k19 => k_is)
    (case a20 => k_is)
    (case l20 => k_is)
    (case c20 => k_is)
    (case k20 => k_is)
    (case a21 => k_is)
    (case l21 => k_is)
    (case c21 => k_is)
    (case k21 => k_is)
    (case a22 => k_is)
    (case l22 => k_is)
    (case c22 => k_is)
    (case k22 => k_is)
    (case a23 => k_is)
    (case l23 => k_is)
    (case c23 => k_is)
    (case k23 => k_is)
    (case a24 => k_is)
    (case l24 => k_is)
    (case c24 => k_is)
    (case k24 => k_is)
    (case a25 => k_is)
    (case l25 => k_is)
    (case c25 => k_is)
    (case k25 => k_is)
    (case a26 => k_is)
    (case l26 => k_is)
    (case c26 => k_is)
    (case k26 => k_is)
    (case a27 => k_is)
    (case l27 => k_is)
    (case c27 => k_is)
    (case k27 => k_is)
    (case a28 => k_is)
    (case l28 => k_is)
    (case c28 => k_is)
    (case k28 => k_is)
    (case a29 => k_is)
    (case l29 => k_is)
    (case c29 => k_is)
    (case k29 => k_is)
    (case a30 => k_is)
    (case l30 => k_is)
    (case c30 => k_is)
    (case k30 => k_is)
    (case a31 => k_is)
    (case l31 => k_is)
    (case c31 => k_is)
    (case k31 => k_is)
    (case a32 => k_is)
    (case l32 => k_is)
    (case c32 => k_is)
    (case k32 => k_is)
    (case a33 => k_is)
    (case l33 => k_is)
    (case c33 => k_is)
    (case k33 => k_is)
    (case a34 => k_is)
    (case l34 => k_is)
    (case c34 => k_is)
    (case k34 => k_is)
    (case a35 => k_is)
    (case l35 => k_is)
    (case c35 => k_is)
    (case k35 => k_is)
    (case a36 => k_is)
    (case l36 => k_is)
    (case c36 => k_is)
    (case k36 => k_is)
    (case a37 => k_is)
    (case i37 => k_is)
    (case l37 => k_is)
    (case c37 => k_is)
    (case k37 => k_is)
    (case a38 => k_is)
    (case l38 => k_is)
    (case c38 => k_is)
    (case k38 => k_is)
    (case a39 => k_is)
    (case i39 => k_is)
    (case l39 => k_is)
    (case c39 => k_is)
    (case k39 => k_is)
    (case a40 => k_is)
    (case l40 => k_is)
    (case c40 => k_is)
    (case k40 => k_is)
    (case a41 => k_is)
    (case l41 => k_is)
    (case c41 => k_is)
    (case k41 => k_is)
    (case a42 => k_is)
    (case l42 => k_is)
    (case c42 => k_is)
    (case k42 => k_is)
    (case a43 => k_is)
    (case l43 => k_is)
    (case c43 => k_is)
    (case k43 => k_is)
    (case a44 => k_is)
    (case pa44 => k_is)
    (case pb44 => k_is)
    (case pc44 => exact ⟨_, by k_is⟩)
    (case l44 => k_is)
    (case c44 => k_is)
    (case k44 => k_is)
    (case a45 => k_is)
    (case pa45 => k_is)
    (case pb45 => k_is)
    (case pc45 => exact ⟨_, by k_is⟩)
    (case l45 => k_is)
    (case c45 => k_is)
    (case k45 => k_is)
