import PyProof.Rows.All
import Wide.All
import OpenK.AllK
import Wide.FinOn
import KE.KNestM
import HandS.Head0
import HandS.Head1
import HandS.Head2
import PySem.Challenge.RW_flashfolds_k62_open_tables_against_fewer
import HandS.ForMost
import HandS.Wide
import HandS.WideBits
import HandS.IsInst
import HandS.Exc
import HandS.ExcOwn
import HandS.TryOnly
import HandS.WordsExc
import HandS.Conv
import KE.KDictKeyed
import HandS.Lambda
import HandS.ExcIs
import HandS.ExcField
import HandS.TupAny
import HandS.TupMul
import HandS.Flow
import HandS.Style
import HandS.Small
import HandS.Iter
import HandS.TupSets
import KE.GoesEnum
import PyProof.ReprRoads
import PyProof.ReprLen
import HandS.SortRule
import HandS.SetBool
import HandS.Strs
import HandS.EndTab
import KE.KExcIs
import HandS.TryMany
import HandS.Property
import KE.DataFind
import HandS.Deep
import HandS.More
import HandS.Defaults
import HandS.TupLe
import HandS.SlotsOwn
import HandS.Words
import KE.KExcSuper
import HandS.ExcInit
import KE.KFmtOwn
import PyProof.InstNe
import HandS.SetFor
import HandS.Text
import KE.KEqNest
import HandS.Star
import HandS.ExcValue
import HandS.RaiseMore
import HandS.OwnEq
import PyProof.Rows.SortShellAny
import KE.KDictDisplayH
import KE.SortKeyHeap
import KE.KDictCopyH
import KE.DataMinMax
import HandS.Dict
import PyProof.DictUpdate
import PyProof.DictDisplay
import PyProof.EvalArms
import HandS.Zip
import PyProof.LongRange
import HandS.SetKeys
import KE.KDictWalk
import KE.KDictZip
import KE.KTurns
import PyProof.AutoSeq1
set_option Elab.async false
set_option linter.all false
set_option maxRecDepth 100000
set_option maxHeartbeats 0
namespace Px
open PySem PySem.W PySem.Calls PyProof.Rows
def topNames (p : Program) : List PySem.Str := (p.main.scope.names.map (·.1)).filter fun x => !(x == ("law" : PySem.Str))
theorem run_split {r : OpenRow} {q : Program} {H : Hook} {ob : SharedT → H.α} {M : Nat} {loose : List PySem.Str} (row : String) (h0 : ∀ (b : Bool) (w : World), HandSHeadRun.RunEq r q H ob M loose (w.withFollow row b)) : ∀ w : World, HandSHeadRun.RunEq r q H ob M loose w := fun w => by
  have e := World.withFollow_self w row
  rw [← e]
  exact h0 _ w
theorem head_k {r : OpenRow} {q : Program} {K : Params → Frag} {as : List Addr} {e0 : ∀ P, as = (K P).map (·.1)} {H : Hook} (hH : H = kHook K as e0) {M : Nat} {loose : List PySem.Str} {d : DefRec} {kwd : List (PySem.Str × PySem.Expr)}
    (e : opening r.prog = plainProg r.prog.main.scope.names) (f : ∀ s, fenceModules? r.prog s = some s) (run : ∀ w, HandSHeadRun.RunEq r q (kHook K as e0) (fun s => as.map (HandSHeadRun.getT s)) M loose w)
    (hdef : defOf q r.name = some (d, kwd)) (hp : r.prog.theDef r.name = some (d.params, d.body, d.scope)) (hk : kwWritten? d.params.kwonlyargs d.params.kw_defaults = some kwd)
    (hwr : (!r.writes || r.records.isEmpty) = true) (k1 : r.wellSaid = true) (ok : (chainsOk q && opensWell r.prog && (frees r.toRowW && r.within.isEmpty)) = true) (hb : r.prog.bare) (hw : r.toRowW.promised)
    (call : WalkO q loose (XL q []) (kHook K as e0).says r.toRowW d kwd fun f vs => PySem.call f vs) : r.Holds :=
  HandSHeadRun.head_any (H := kHook K as e0) (ob := fun s => as.map (HandSHeadRun.getT s))
    (fun s => by
      show as.map (HandSHeadRun.getT s) = as.map s.abs.heap.get?
      rw [show HandSHeadRun.getT s = s.abs.heap.get? from funext fun a => HandSHeadRun.getT_eq s a]) e f run hdef hp hk hwr k1 ok hb hw call
end Px
namespace Px
open PySem PySem.W
def P0 : Params := { strHash := fun _ => 0, shareClass := fun _ => 0, mergeTok := id, idOf := fun _ => 0, idOfShared := fun _ _ => 0, followText := fun _ => false, idOfImm := fun _ => 0 }
def asOf (K : Params → Frag) : List Addr := (K P0).map (·.1)
end Px
namespace Px
open PySem PySem.W PySem.Calls PyProof.Rows
theorem map_two {α β γ : Type} {x : Option α} {f : α → β} {g : α → γ} {a : β} {b : γ} (h1 : x.map f = some a) (h2 : x.map g = some b) : x.map (fun s => (f s, g s)) = some (a, b) := by
  cases x with
  | none => cases h1
  | some s =>
    cases h1
    cases h2
    rfl
def RunA (r : OpenRow) (q : Program) (M : Nat) (loose : List PySem.Str) (w : World) : Prop := ∀ os : OsState,
  (HandSHeadRun.endF (HandSHeadRun.stepQ (HandSHeadRun.denQ HandSHeadRun.tabQ) r.prog w) M r.prog w os).map (fun s => (HandSHeadRun.looksF r.prog (boot_heap w.params) s.abs, HandSHeadRun.seenQ q loose (importedModules r.prog.main.body) (fun s => xlAt q [] s && recOk r.toRowW.records s) s.abs)) = some (true, openGood q loose)
def RunB {β : Type} (r : OpenRow) (ob : SharedT → β) (v : World → β) (M : Nat) (w : World) : Prop := ∀ os : OsState,
  (HandSHeadRun.endF (HandSHeadRun.stepQ (HandSHeadRun.denQ HandSHeadRun.tabQ) r.prog w) M r.prog w os).map ob = some (v w)
theorem run_ab {r : OpenRow} {q : Program} {H : Hook} {ob : SharedT → H.α} {M : Nat} {loose : List PySem.Str} {w : World} (hA : RunA r q M loose w) (hB : RunB r ob H.val M w) : HandSHeadRun.RunEq r q H ob M loose w := fun os => by
  have h1 := hA os
  have h2 := hB os
  have h3 := map_two h1 h2
  revert h3
  cases (HandSHeadRun.endF (HandSHeadRun.stepQ (HandSHeadRun.denQ HandSHeadRun.tabQ) r.prog w) M r.prog w os) with
  | none => exact fun h => by cases h
  | some s =>
    intro h3
    have h4 := Option.some.inj h3
    obtain ⟨e1, e2⟩ := Prod.mk.inj h4
    obtain ⟨e3, e4⟩ := Prod.mk.inj e1
    show some (_, _, _) = some (_, _, _)
    rw [e2, e3, e4]
end Px
set_option Elab.async false
set_option linter.all false
set_option maxRecDepth 100000
section
open PySem PySem.W PyProof.Rows
open PySem PySem.W PySem.Calls PyProof.Rows
set_option maxHeartbeats 0
local macro_rules | `(tactic| o_head $H) => `(tactic| (have hK := $H; assumption))
theorem Px.pre (h0 : (OpenLaw.row PySem.Challenge.rw_flashfolds_k62_open_tables_against_fewer).Holds) : (OpenLaw.row PySem.Challenge.rw_flashfolds_k62_open_tables_against_fewer).Holds := by
  k_head
theorem Px.as_ok (P : Params) : Px.asOf Px.pre.heap_1 = (Px.pre.heap_1 P).map (·.1) := by kernel_rfl
theorem Px.runA_false (w : World) : Px.RunA (OpenLaw.row PySem.Challenge.rw_flashfolds_k62_open_tables_against_fewer) (view (OpenLaw.row PySem.Challenge.rw_flashfolds_k62_open_tables_against_fewer).prog [45]) 50000 (Px.topNames (OpenLaw.row PySem.Challenge.rw_flashfolds_k62_open_tables_against_fewer).prog) (w.withFollow "special-get-raises" false) := fun os => by kernel_rfl
theorem Px.runB_false (w : World) : Px.RunB (OpenLaw.row PySem.Challenge.rw_flashfolds_k62_open_tables_against_fewer) (fun s => (Px.asOf Px.pre.heap_1).map (HandSHeadRun.getT s)) (Hook.val (kHook Px.pre.heap_1 (Px.asOf Px.pre.heap_1) Px.as_ok)) 50000 (w.withFollow "special-get-raises" false) := fun os => by kernel_rfl
theorem Px.runA_true (w : World) : Px.RunA (OpenLaw.row PySem.Challenge.rw_flashfolds_k62_open_tables_against_fewer) (view (OpenLaw.row PySem.Challenge.rw_flashfolds_k62_open_tables_against_fewer).prog [45]) 50000 (Px.topNames (OpenLaw.row PySem.Challenge.rw_flashfolds_k62_open_tables_against_fewer).prog) (w.withFollow "special-get-raises" true) := fun os => by kernel_rfl
theorem Px.runB_true (w : World) : Px.RunB (OpenLaw.row PySem.Challenge.rw_flashfolds_k62_open_tables_against_fewer) (fun s => (Px.asOf Px.pre.heap_1).map (HandSHeadRun.getT s)) (Hook.val (kHook Px.pre.heap_1 (Px.asOf Px.pre.heap_1) Px.as_ok)) 50000 (w.withFollow "special-get-raises" true) := fun os => by kernel_rfl
end
set_option Elab.async false
set_option linter.all false
set_option maxRecDepth 100000
namespace Px
open PySem PySem.Spec PyProof.Rows L2
inductive D where
  | non | bl (b : Bool) | int (i : Int) | str (s : Str)
  | tup (l : List D) | lst (l : List D)
  | dic (ks : List Key) (l : List D)
  | obj (C : Addr) (ns : List Str) (l : List D)
  | raw (v : V)
  | scr (ns : List Int)
  | clo (f c : Addr) (q : Str) (xs : List V) (l : List D)
  | fnc (f c : Addr) (q : Str) (o : Obj)
  | exv (a : Addr) (cls : Value) (d : Option Addr) (ns : List Str) (l : List D)
def ExV (cls : Value) (d : Option Addr) (a : Addr) : HO := .ext fun h => ∃ (oe : Obj) (vs : Array Value), h.get? a = some oe ∧ Zc cls d oe ∧ oe.data = .fields vs
def FnO (f : Addr) (o : Obj) : HO := .ext fun h => h.get? f = some o
section
variable (K : PySem.W.Frag) (F : Hp)
mutual
def Rp : D → V → Prop
  | .non, v => v = .non
  | .bl b, v => v = .bl b
  | .int i, v => v = .int i
  | .str s, v => v = .str s
  | .tup l, v => ∃ a xs, v = .ref a ∧ SqT K F a xs ∧ RpL l xs
  | .lst l, v => ∃ a xs, v = .ref a ∧ F a = some (.lst xs) ∧ RpL l xs
  | .dic ks l, v => ∃ a kvs, v = .ref a ∧ Rd F a (.dK kvs) ∧ kvs.map (·.1) = ks ∧ RpL l (kvs.map (·.2))
  | .obj C ns l, v => ∃ a dx fs, v = .ref a ∧ F a = some (.ins C dx fs) ∧ fs.map (·.1) = ns ∧ RpL l (fs.map (·.2))
  | .raw w, v => v = w
  | .scr ns, v => ∃ a, v = .ref a ∧ SqL K F a (ns.map V.int)
  | .clo f c q xs l, v => v = .ref f ∧ F c = some (LamX.CodeO c q) ∧ RpL l xs
  | .fnc f c q o, v => v = .ref f ∧ F f = some (FnO f o) ∧ F c = some (LamX.CodeO c q)
  | .exv a cls d ns l, v => v = .ref a ∧ F a = some (ExV cls d a) ∧ ((d = none ∧ ns = [] ∧ l = []) ∨ ∃ b ys, d = some b ∧ F b = some (.xd ys) ∧ ys.map (·.1) = ns ∧ RpL l (ys.map (·.2)))
def RpL : List D → List V → Prop
  | [], xs => xs = []
  | d :: ds, xs => ∃ x r, xs = x :: r ∧ Rp d x ∧ RpL ds r
end
end
section
variable {K : PySem.W.Frag} {F F' : Hp}
theorem same_rd {a : Addr} {u : HO} (e : Same F F') (h : Rd F a u) : Rd F' a u := by
  rcases h with h | ⟨o, h⟩
  · exact .inl (e a _ h)
  · exact .inr ⟨o, e a _ h⟩
theorem same_l {a : Addr} {xs : List V} (e : Same F F') (h : SqL K F a xs) : SqL K F' a xs := h.elim (fun h => .inl (same_rd e h)) .inr
theorem same_t {a : Addr} {xs : List V} (e : Same F F') (h : SqT K F a xs) : SqT K F' a xs := h.elim (fun h => .inl (same_rd e h)) .inr
mutual
theorem Rp.mono (e : Same F F') : ∀ (d : D) (v : V), Rp K F d v → Rp K F' d v
  | .non, _, h => h
  | .bl _, _, h => h
  | .int _, _, h => h
  | .str _, _, h => h
  | .tup l, _, ⟨a, xs, e1, s, r⟩ => ⟨a, xs, e1, same_t e s, RpL.mono e l xs r⟩
  | .lst l, _, ⟨a, xs, e1, s, r⟩ => ⟨a, xs, e1, e _ _ s, RpL.mono e l xs r⟩
  | .dic _ l, _, ⟨a, xs, e1, s, k, r⟩ => ⟨a, xs, e1, same_rd e s, k, RpL.mono e l _ r⟩
  | .obj _ _ l, _, ⟨a, dx, fs, e1, s, k, r⟩ => ⟨a, dx, fs, e1, e _ _ s, k, RpL.mono e l _ r⟩
  | .raw _, _, h => h
  | .scr _, _, ⟨a, e1, s⟩ => ⟨a, e1, same_l e s⟩
  | .clo _ _ _ xs l, _, ⟨h1, h2, h3⟩ => ⟨h1, e _ _ h2, RpL.mono e l xs h3⟩
  | .fnc _ _ _ _, _, ⟨h1, h2, h3⟩ => ⟨h1, e _ _ h2, e _ _ h3⟩
  | .exv _ _ _ _ l, _, ⟨h1, h2, .inl h3⟩ => ⟨h1, e _ _ h2, .inl h3⟩
  | .exv _ _ _ _ l, _, ⟨h1, h2, .inr ⟨b, ys, h3, h4, h5, h6⟩⟩ => ⟨h1, e _ _ h2, .inr ⟨b, ys, h3, e _ _ h4, h5, RpL.mono e l _ h6⟩⟩
theorem RpL.mono (e : Same F F') : ∀ (ds : List D) (xs : List V), RpL K F ds xs → RpL K F' ds xs
  | [], _, h => h
  | d :: ds, _, ⟨x, r, e1, h, t⟩ => ⟨x, r, e1, Rp.mono e d x h, RpL.mono e ds r t⟩
end
theorem RpL.len : ∀ {ds : List D} {xs : List V}, RpL K F ds xs → ds.length = xs.length
  | [], _, h => by rw [h]; rfl
  | d :: ds, _, ⟨x, r, e1, _, t⟩ => by rw [e1, List.length_cons, List.length_cons, RpL.len t]
theorem RpL.app : ∀ {ds es : List D} {xs ys : List V}, RpL K F ds xs → RpL K F es ys → RpL K F (ds ++ es) (xs ++ ys)
  | [], _, _, _, h, t => by rw [h]; exact t
  | d :: ds, _, _, _, ⟨x, r, e1, h, t⟩, q => by rw [e1]; exact ⟨x, _, rfl, h, RpL.app t q⟩
theorem RpL.get : ∀ {ds : List D} {xs : List V} {i : Nat} {d : D}, RpL K F ds xs → ds[i]? = some d → ∃ x, xs[i]? = some x ∧ Rp K F d x
  | [], _, _, _, _, e => by simp at e
  | d :: ds, _, 0, _, ⟨x, r, e1, h, _⟩, e => by
    have e2 : d = _ := Option.some.inj e
    exact ⟨x, by rw [e1]; rfl, e2 ▸ h⟩
  | d :: ds, _, i + 1, _, ⟨x, r, e1, _, t⟩, e => by
    obtain ⟨y, h1, h2⟩ := RpL.get (i := i) t (by simpa using e)
    exact ⟨y, by rw [e1]; simpa using h1, h2⟩
theorem RpL.drop : ∀ {ds : List D} {xs : List V} (i : Nat), RpL K F ds xs → RpL K F (ds.drop i) (xs.drop i)
  | _, _, 0, h => h
  | [], _, i + 1, h => by rw [h]; exact rfl
  | d :: ds, _, i + 1, ⟨x, r, e1, _, t⟩ => by rw [e1]; exact RpL.drop i t
theorem RpL.take : ∀ {ds : List D} {xs : List V} (i : Nat), RpL K F ds xs → RpL K F (ds.take i) (xs.take i)
  | _, _, 0, h => rfl
  | [], _, i + 1, h => by rw [h]; exact rfl
  | d :: ds, _, i + 1, ⟨x, r, e1, h, t⟩ => by rw [e1]; exact ⟨x, _, rfl, h, RpL.take i t⟩
theorem RpL.set : ∀ {ds : List D} {xs : List V} {d : D} {x : V} (i : Nat), RpL K F ds xs → Rp K F d x → RpL K F (ds.set i d) (xs.set i x)
  | [], _, _, _, _, h, _ => by rw [h]; exact rfl
  | _ :: ds, _, _, _, 0, ⟨x, r, e1, _, t⟩, q => by rw [e1]; exact ⟨_, _, rfl, q, t⟩
  | _ :: ds, _, _, _, i + 1, ⟨x, r, e1, h, t⟩, q => by rw [e1]; exact ⟨x, _, rfl, h, RpL.set i t q⟩
theorem RpL.ints : ∀ {ns : List Int} {xs : List V}, RpL K F (ns.map .int) xs → xs = ns.map V.int
  | [], _, h => h
  | n :: ns, _, ⟨x, r, e1, h, t⟩ => by rw [e1, show x = V.int n from h, RpL.ints t]; rfl
theorem RpL.of_ints : ∀ (ns : List Int), RpL K F (ns.map .int) (ns.map V.int)
  | [] => rfl
  | n :: ns => ⟨_, _, rfl, rfl, RpL.of_ints ns⟩
theorem RpL.bls : ∀ {ns : List Bool} {xs : List V}, RpL K F (ns.map .bl) xs → xs = ns.map V.bl
  | [], _, h => h
  | n :: ns, _, ⟨x, r, e1, h, t⟩ => by rw [e1, show x = V.bl n from h, RpL.bls t]; rfl
end
inductive Sv where
  | val (d : D) | own (l : List D) | bag (d : D) (b : List (Addr × List D))
  | dct (c : Addr) (kvs : List (D × D)) (b : List (Addr × List D))
inductive Mo where
  | draw
  | dct (kvs : List (D × D))
  | lst (l : List D)
  | dik (kvs : List (Key × D))
  | ins (C : Addr) (fs : List (Str × D))
  | tab (q : Str)
  | any (u : PySem.W.Frag → Addr → Hp → HO → Prop)
  | kn (u : PySem.W.Frag → Addr → Hp → Prop)
abbrev Mm := Addr → Option Mo
inductive Ow where
  | slot (i : Nat) | obj (a : Addr) | tmp
abbrev Rho := List (Option Sv)
abbrev Own := Addr → Option Ow
def gt : Rho → Nat → Option Sv
  | [], _ => none
  | x :: _, 0 => x
  | _ :: r, n + 1 => gt r n
def st : Rho → Nat → Sv → Rho
  | [], _, _ => []
  | _ :: r, 0, y => some y :: r
  | x :: r, n + 1, y => x :: st r n y
theorem st_len : ∀ (ρ : Rho) (i : Nat) (y : Sv), (st ρ i y).length = ρ.length
  | [], _, _ => rfl
  | _ :: r, 0, _ => rfl
  | x :: r, n + 1, y => by show (st r n y).length + 1 = _; rw [st_len r n y]; rfl
theorem gt_lt : ∀ {ρ : Rho} {i : Nat} {y : Sv}, gt ρ i = some y → i < ρ.length
  | [], _, _, h => by cases h
  | _ :: r, 0, _, _ => Nat.succ_pos _
  | x :: r, n + 1, y, h => Nat.succ_lt_succ (gt_lt (ρ := r) h)
theorem gt_st_ne : ∀ {ρ : Rho} {i j : Nat} {y : Sv}, j ≠ i → gt (st ρ i y) j = gt ρ j
  | [], _, _, _, _ => rfl
  | _ :: r, 0, 0, _, h => absurd rfl h
  | _ :: r, 0, j + 1, _, _ => rfl
  | x :: r, n + 1, 0, _, _ => rfl
  | x :: r, n + 1, j + 1, y, h => gt_st_ne (ρ := r) fun e => h (by rw [e])
theorem gt_st_self : ∀ {ρ : Rho} {i : Nat} {y z : Sv}, gt (st ρ i y) i = some z → z = y
  | [], _, _, _, h => by cases h
  | _ :: r, 0, _, _, h => (Option.some.inj h).symm
  | x :: r, n + 1, y, z, h => gt_st_self (ρ := r) h
section
variable (K : PySem.W.Frag)
def drawKeys (l : Addr) (c : V) (rest turn mix : Int) : List (Key × V) :=
  [(.inr "large", .ref l), (.inr "cells", c), (.inr "rest", .int rest), (.inr "turn", .int turn), (.inr "mix", .int mix)]
mutual
def nkOf : D → Option NestedKey
  | .non => some .none
  | .bl b => some (.num (if b = true then 1 else 0))
  | .int i => some (.num i)
  | .tup l => (nkOfL l).map .tup
  | .str _ | .lst _ | .dic _ _ | .obj _ _ _ | .raw _ | .scr _ | .clo _ _ _ _ _ | .fnc _ _ _ _ | .exv _ _ _ _ _ => none
def nkOfL : List D → Option (List NestedKey)
  | [] => some []
  | d :: r => match nkOf d, nkOfL r with
    | some a, some b => some (a :: b)
    | _, _ => none
end
mutual
def ntK : NestedKey → Bool
  | .none => true
  | .num _ => true
  | .text _ => false
  | .tup ks => ntKL ks
def ntKL : List NestedKey → Bool
  | [] => true
  | k :: r => ntK k && ntKL r
end
abbrev KEnts := List (NestedKey × Addr × Value)
def dkP (p : Addr) (xs : KEnts) (h : Heap) : Prop := (p == sysModules) = false ∧ (∀ x ∈ xs, ntK x.1 = true) ∧ (xs.map (·.1)).Nodup ∧ ∃ o es ep, h.get? p = some o ∧ o.ExactDict ∧ o.data = .dict es ep ∧
  ∀ w : World, es.toList = xs.map fun x => ⟨x.1.hash w, .ref x.2.1, x.2.2⟩
def dkO (p : Addr) (xs : KEnts) : HO := .ext (dkP p xs)
def DRel (F : Hp) : List (D × D) → KEnts → Prop
  | [], xs => xs = []
  | p :: r, xs => ∃ x ys v, xs = x :: ys ∧ nkOf p.1 = some x.1 ∧ x.1.depth ≤ 8 ∧ Rp K F p.1 (.ref x.2.1) ∧ Rp K F p.2 v ∧ RelV v x.2.2 ∧ DRel F r ys
def SvOk (F : Hp) (H : Hp) (O : Own) (i : Nat) : Sv → V → Prop
  | .val d, v => Rp K F d v
  | .own l, v => ∃ p xs, v = .ref p ∧ H p = some (.lst xs) ∧ RpL K F l xs ∧ O p = some (.slot i)
  | .bag d b, v => Rp K F d v ∧ (b.map (·.1)).Nodup ∧ ∀ q ∈ b, ∃ xs, H q.1 = some (.lst xs) ∧ RpL K F q.2 xs ∧ O q.1 = some (.slot i)
  | .dct c kvs b, v => v = .ref c ∧ O c = some (.slot i) ∧ (∃ xs, H c = some (dkO c xs) ∧ kvs.length ≤ 1000000 ∧ DRel K F kvs xs) ∧ (b.map (·.1)).Nodup ∧ ∀ q ∈ b, ∃ xs, H q.1 = some (.lst xs) ∧ RpL K F q.2 xs ∧ O q.1 = some (.slot i)
def ExOk (F : Hp) (d : Option Addr) (fs : List (Str × D)) : Prop :=
  match d with
  | none => fs = []
  | some a => ∃ ys : List (Str × V), F a = some (.xd ys) ∧ ys.map (·.1) = fs.map (·.1) ∧ RpL K F (fs.map (·.2)) (ys.map (·.2))
def MoOk (F : Hp) (H : Hp) (O : Own) (a : Addr) : Mo → Prop
  | .tab q => ∃ ps : Array Value, H a = some (.tbl ps) ∧ O a = some (.obj a) ∧ TriplesOk ps.toList ∧ ∀ (pos : Pos) (cv : Value), codeAmong pos ps.toList = some cv → ∃ c, cv = .ref c ∧ F c = some (LamX.CodeO c q)
  | .dct kvs => ∃ xs, H a = some (dkO a xs) ∧ O a = some (.obj a) ∧ kvs.length ≤ 1000000 ∧ DRel K F kvs xs
  | .lst l => ∃ xs, H a = some (.lst xs) ∧ O a = some (.obj a) ∧ RpL K F l xs
  | .kn u => ∃ F0, Same F0 F ∧ (∃ o, F0 a = some o) ∧ u K a F0
  | .any u => ∃ F0 o, Same F0 F ∧ H a = some o ∧ O a = some (.obj a) ∧ u K a F0 o
  | .dik kvs => ∃ ys, H a = some (.dK ys) ∧ O a = some (.obj a) ∧ ys.map (·.1) = kvs.map (·.1) ∧ RpL K F (kvs.map (·.2)) (ys.map (·.2))
  | .ins C fs => ∃ dx ys, H a = some (.ins C dx ys) ∧ O a = some (.obj a) ∧ ys.map (·.1) = fs.map (·.1) ∧ RpL K F (fs.map (·.2)) (ys.map (·.2))
  | .draw => ∃ (l : Addr) (big cells : List Int) (c : V) (rest turn mix : Int), H a = some (.dK (drawKeys l c rest turn mix)) ∧ H l = some (.lst (big.map V.int)) ∧ Rp K F (.lst (cells.map .int)) c ∧
      O a = some (.obj a) ∧ O l = some (.obj a) ∧ big.length ≤ 63 ∧ cells.length ≤ 63 ∧ 0 ≤ mix ∧ mix < 2147483629
structure Gh where
  H0 : Hp
  F0 : Hp
  own0 : Addr → Prop
  tmp : List (Addr × List D) := []
structure Wd (g : Gh) (H : Hp) (M : Mm) (F : Hp) (O : Own) : Prop where
  sub : Same F H
  ext0 : Same g.F0 F
  new : ∀ a o, F a = some o → g.F0 a = some o ∨ g.H0 a = none
  frm : ∀ a o, g.H0 a = some o → ¬ g.own0 a → H a = some o
  thr : ∀ a o, g.H0 a = some o → ∃ o', H a = some o'
  liv : ∀ a o, O a = some o → (∃ x, H a = some x) ∧ F a = none ∧ (g.own0 a ∨ g.H0 a = none)
  slo : ∀ a o, O a = some o → (∀ m, o ≠ .obj m) → g.H0 a = none
  tm : ∀ p l, (p, l) ∈ g.tmp → ∃ xs, H p = some (.lst xs) ∧ RpL K F l xs ∧ O p = some .tmp
  mu : ∀ a mo, M a = some mo → MoOk K F H O a mo
structure Ab (g : Gh) (σ : L2.St) (H : Hp) (ρ : Rho) (M : Mm) (F : Hp) (O : Own) : Prop extends Wd K g H M F O where
  len : ρ.length = σ.length
  sl : ∀ i sv, gt ρ i = some sv → ∃ v, σ[i]? = some (some v) ∧ SvOk K F H O i sv v
end
abbrev PQ := D → Mm → Prop
abbrev PX := Value → List (Str × D) → Mm → Prop
abbrev PWi := Value → List (Str × D) → Rho → Mm → Prop
abbrev PTE := PWi → Rho → Mm → PQ → Prop
abbrev PTT := PWi → Rho → Mm → (Bool → Mm → Prop) → Prop
abbrev PTA := PWi → Rho → Mm → (List D → Mm → Prop) → Prop
structure PEnds where
  nx : Rho → Mm → Prop
  rt : D → Mm → Prop
  bk : Rho → Mm → Prop := fun _ _ => False
  ct : Rho → Mm → Prop := fun _ _ => False
  rl : List D → Mm → Prop := fun _ _ => False
abbrev PTS := PWi → PEnds → Rho → Mm → Prop
def WOk (K : PySem.W.Frag) (g : Gh) (F : Hp) (W : WX) (w : PWi) : Prop :=
  ∀ cls dd σ H ρ M F' O fs, Ab K g σ H ρ M F' O → Same F F' → ExOk K F' dd fs → w cls fs ρ M → W cls dd σ H
theorem WOk.mono {K : PySem.W.Frag} {g : Gh} {F F' : Hp} {W : WX} {w : PWi} (h : WOk K g F W w) (e : Same F F') : WOk K g F' W w :=
  fun cls dd σ H ρ M F2 O fs a s x y => h cls dd σ H ρ M F2 O fs a (e.trans s) x y
def real (K : PySem.W.Frag) (W : WX) (p : PTE) : TE := fun σ H Q => ∃ g ρ M F O q w, Ab K g σ H ρ M F O ∧ p w ρ M q ∧ WOk K g F W w ∧
  ∀ v H' F' O' M' d, Ab K g σ H' ρ M' F' O' → Same F F' → Rp K F' d v → q d M' → Q v H'
def realT (K : PySem.W.Frag) (W : WX) (p : PTT) : TT := fun σ H Q => ∃ g ρ M F O q w, Ab K g σ H ρ M F O ∧ p w ρ M q ∧ WOk K g F W w ∧
  ∀ b H' F' O' M', Ab K g σ H' ρ M' F' O' → Same F F' → q b M' → Q b H'
def realA (K : PySem.W.Frag) (W : WX) (p : PTA) : TA := fun σ H Q => ∃ g ρ M F O q w, Ab K g σ H ρ M F O ∧ p w ρ M q ∧ WOk K g F W w ∧
  ∀ vs H' F' O' M' ds, Ab K g σ H' ρ M' F' O' → Same F F' → RpL K F' ds vs → q ds M' → Q vs H'
def realS (K : PySem.W.Frag) (W : WX) (p : PTS) : TS := fun D σ H => ∃ g ρ M F O P w, Ab K g σ H ρ M F O ∧ p w P ρ M ∧ WOk K g F W w ∧
  (∀ σ' H' ρ' M' F' O', Ab K g σ' H' ρ' M' F' O' → Same F F' → P.nx ρ' M' → D.nx σ' H') ∧
  (∀ v σ' H' ρ' M' F' O' d, Ab K g σ' H' ρ' M' F' O' → Same F F' → Rp K F' d v → P.rt d M' → D.rt v H') ∧
  (∀ σ' H' ρ' M' F' O', Ab K g σ' H' ρ' M' F' O' → Same F F' → P.bk ρ' M' → D.bk σ' H') ∧
  (∀ σ' H' ρ' M' F' O', Ab K g σ' H' ρ' M' F' O' → Same F F' → P.ct ρ' M' → D.ct σ' H') ∧
  (∀ a xs σ' H' ρ' M' F' O' ds, Ab K g σ' H' ρ' M' F' O' → Same F F' → H' a = some (.lst xs) → RpL K F' ds xs → F' a = none → O' a = none → g.H0 a = none → P.rl ds M' → D.rt (.ref a) H')
theorem real.el {K : PySem.W.Frag} {W : WX} {p : PTE} {σ : L2.St} {H : Hp} {Q : VK} {C : Prop} (h : real K W p σ H Q) (f : ∀ g ρ M F O q w, Ab K g σ H ρ M F O → p w ρ M q → WOk K g F W w → (∀ v H' F' O' M' d, Ab K g σ H' ρ M' F' O' → Same F F' → Rp K F' d v → q d M' → Q v H') → C) : C := by
  obtain ⟨g, ρ, M, F, O, q, w, A, a, b, c⟩ := h
  exact f g ρ M F O q w A a b c
theorem realT.el {K : PySem.W.Frag} {W : WX} {p : PTT} {σ : L2.St} {H : Hp} {Q : Bool → Hp → Prop} {C : Prop} (h : realT K W p σ H Q) (f : ∀ g ρ M F O q w, Ab K g σ H ρ M F O → p w ρ M q → WOk K g F W w → (∀ b H' F' O' M', Ab K g σ H' ρ M' F' O' → Same F F' → q b M' → Q b H') → C) : C := by
  obtain ⟨g, ρ, M, F, O, q, w, A, a, b, c⟩ := h
  exact f g ρ M F O q w A a b c
theorem realA.el {K : PySem.W.Frag} {W : WX} {p : PTA} {σ : L2.St} {H : Hp} {Q : List V → Hp → Prop} {C : Prop} (h : realA K W p σ H Q) (f : ∀ g ρ M F O q w, Ab K g σ H ρ M F O → p w ρ M q → WOk K g F W w → (∀ vs H' F' O' M' ds, Ab K g σ H' ρ M' F' O' → Same F F' → RpL K F' ds vs → q ds M' → Q vs H') → C) : C := by
  obtain ⟨g, ρ, M, F, O, q, w, A, a, b, c⟩ := h
  exact f g ρ M F O q w A a b c
theorem realS.el {K : PySem.W.Frag} {W : WX} {p : PTS} {D : L2.Ends} {σ : L2.St} {H : Hp} {C : Prop} (h : realS K W p D σ H) (f : ∀ g ρ M F O P w, Ab K g σ H ρ M F O → p w P ρ M → WOk K g F W w →
  (∀ σ' H' ρ' M' F' O', Ab K g σ' H' ρ' M' F' O' → Same F F' → P.nx ρ' M' → D.nx σ' H') →
  (∀ v σ' H' ρ' M' F' O' d, Ab K g σ' H' ρ' M' F' O' → Same F F' → Rp K F' d v → P.rt d M' → D.rt v H') →
  (∀ σ' H' ρ' M' F' O', Ab K g σ' H' ρ' M' F' O' → Same F F' → P.bk ρ' M' → D.bk σ' H') →
  (∀ σ' H' ρ' M' F' O', Ab K g σ' H' ρ' M' F' O' → Same F F' → P.ct ρ' M' → D.ct σ' H') →
  (∀ a xs σ' H' ρ' M' F' O' ds, Ab K g σ' H' ρ' M' F' O' → Same F F' → H' a = some (.lst xs) → RpL K F' ds xs → F' a = none → O' a = none → g.H0 a = none → P.rl ds M' → D.rt (.ref a) H') → C) : C := by
  obtain ⟨g, ρ, M, F, O, q, w, A, a, b, c1, c2, c3, c4, c5⟩ := h
  exact f g ρ M F O q w A a b c1 c2 c3 c4 c5
theorem real.mk {K : PySem.W.Frag} {W : WX} {p : PTE} {σ : L2.St} {H : Hp} {Q : VK} {g : Gh} {ρ : Rho} {M : Mm} {F : Hp} {O : Own} {q : PQ} {w : PWi} (A : Ab K g σ H ρ M F O) (h : p w ρ M q) (hw : WOk K g F W w) (k : ∀ v H' F' O' M' d, Ab K g σ H' ρ M' F' O' → Same F F' → Rp K F' d v → q d M' → Q v H') : real K W p σ H Q := ⟨g, ρ, M, F, O, q, w, A, h, hw, k⟩
theorem realT.mk {K : PySem.W.Frag} {W : WX} {p : PTT} {σ : L2.St} {H : Hp} {Q : Bool → Hp → Prop} {g : Gh} {ρ : Rho} {M : Mm} {F : Hp} {O : Own} {q : Bool → Mm → Prop} {w : PWi} (A : Ab K g σ H ρ M F O) (h : p w ρ M q) (hw : WOk K g F W w) (k : ∀ b H' F' O' M', Ab K g σ H' ρ M' F' O' → Same F F' → q b M' → Q b H') : realT K W p σ H Q := ⟨g, ρ, M, F, O, q, w, A, h, hw, k⟩
theorem realA.mk {K : PySem.W.Frag} {W : WX} {p : PTA} {σ : L2.St} {H : Hp} {Q : List V → Hp → Prop} {g : Gh} {ρ : Rho} {M : Mm} {F : Hp} {O : Own} {q : List D → Mm → Prop} {w : PWi} (A : Ab K g σ H ρ M F O) (h : p w ρ M q) (hw : WOk K g F W w) (k : ∀ vs H' F' O' M' ds, Ab K g σ H' ρ M' F' O' → Same F F' → RpL K F' ds vs → q ds M' → Q vs H') : realA K W p σ H Q := ⟨g, ρ, M, F, O, q, w, A, h, hw, k⟩
abbrev DE (X : Cx) (W : WX) (e : Expr) (p : PTE) : Prop := PE X e (real X.K W p)
abbrev DT (X : Cx) (W : WX) (e : Expr) (p : PTT) : Prop := PT X e (realT X.K W p)
abbrev DA (X : Cx) (W : WX) (es : List Expr) (p : PTA) : Prop := PA X es (realA X.K W p)
abbrev DS (X : Cx) (W : WX) (s : Stmt) (p : PTS) : Prop := PS X s (realS X.K W p)
abbrev DSs (X : Cx) (W : WX) (s : List Stmt) (p : PTS) : Prop := PSs X s (realS X.K W p)
section
variable {X : Cx} {e : Expr} {t t' : TE} {es : List Expr} {s : Stmt} {ss : List Stmt}
theorem pe_imp (h : PE X e t) (i : ∀ σ H Q, t' σ H Q → t σ H Q) : PE X e t' := ⟨fun pins s σ H Q I hw => h.run pins s σ H Q I (i σ H Q hw)⟩
theorem pt_imp {t t' : TT} (h : PT X e t) (i : ∀ σ H Q, t' σ H Q → t σ H Q) : PT X e t' := ⟨fun pins s σ H Q I hw => h.run pins s σ H Q I (i σ H Q hw)⟩
theorem pw_imp {t t' : TT} (h : L2.PW X e t) (i : ∀ σ H Q, t' σ H Q → t σ H Q) : L2.PW X e t' := ⟨fun wh pins s σ H Q I hw => h.run wh pins s σ H Q I (i σ H Q hw)⟩
theorem pa_imp {t t' : TA} (h : PA X es t) (i : ∀ σ H Q, t' σ H Q → t σ H Q) : PA X es t' := ⟨fun pos pins s σ H Q I hw => h.run pos pins s σ H Q I (i σ H Q hw)⟩
theorem ps_imp {t t' : TS} (h : PS X s t) (i : ∀ D σ H, t' D σ H → t D σ H) : PS X s t' := ⟨fun pins s σ H D I hw => h.run pins s σ H D I (i D σ H hw)⟩
theorem pss_imp {t t' : TS} (h : PSs X ss t) (i : ∀ D σ H, t' D σ H → t D σ H) : PSs X ss t' := ⟨fun pins s σ H D I hw => h.run pins s σ H D I (i D σ H hw)⟩
end
end Px
set_option Elab.async false
set_option linter.all false
set_option maxRecDepth 100000
namespace Px
open PySem PySem.Spec PyProof.Rows L2
section
variable {K : PySem.W.Frag} {g : Gh} {σ : L2.St} {H H' : Hp} {ρ : Rho} {M : Mm} {F F' : Hp} {O O' : Own} {a p : Addr} {o : HO} {i : Nat}
theorem DRel.mono (e : Same F F') : ∀ (kvs : List (D × D)) (xs : KEnts), DRel K F kvs xs → DRel K F' kvs xs
  | [], _, h => h
  | p :: r, _, ⟨x, ys, v, e1, e2, e3, e4, e5, e6, e7⟩ => ⟨x, ys, v, e1, e2, e3, Rp.mono e _ _ e4, Rp.mono e _ _ e5, e6, DRel.mono e r ys e7⟩
theorem SvOk.mono {sv : Sv} {v : V} (e : Same F F') (k : ∀ p u, H p = some u → O p = some (.slot i) → H' p = some u ∧ O' p = some (.slot i)) (h : SvOk K F H O i sv v) : SvOk K F' H' O' i sv v := by
  cases sv with
  | val d => exact Rp.mono e d v h
  | own l =>
    obtain ⟨p, xs, e1, e2, r, e3⟩ := h
    obtain ⟨k1, k2⟩ := k p _ e2 e3
    exact ⟨p, xs, e1, k1, RpL.mono e l xs r, k2⟩
  | bag d b =>
    obtain ⟨h1, h2, h3⟩ := h
    refine ⟨Rp.mono e d v h1, h2, fun q hq => ?_⟩
    obtain ⟨xs, e1, r, e2⟩ := h3 q hq
    obtain ⟨k1, k2⟩ := k q.1 _ e1 e2
    exact ⟨xs, k1, RpL.mono e _ xs r, k2⟩
  | dct c kvs b =>
    obtain ⟨h1, h2, ⟨xs, h3, h4, h5⟩, h6, h7⟩ := h
    refine ⟨h1, (k c _ h3 h2).2, ⟨xs, (k c _ h3 h2).1, h4, DRel.mono e _ _ h5⟩, h6, fun q hq => ?_⟩
    obtain ⟨ys, e1, r, e2⟩ := h7 q hq
    obtain ⟨k1, k2⟩ := k q.1 _ e1 e2
    exact ⟨ys, k1, RpL.mono e _ ys r, k2⟩
theorem ExOk.mono {d : Option Addr} {fs : List (Str × D)} (e : Same F F') (h : ExOk K F d fs) : ExOk K F' d fs := by
  cases d with
  | none => exact h
  | some a =>
    obtain ⟨ys, h1, h2, h3⟩ := h
    exact ⟨ys, e _ _ h1, h2, RpL.mono e _ _ h3⟩
theorem MoOk.mono {mo : Mo} (e : Same F F') (k : ∀ p u, H p = some u → O p = some (.obj a) → H' p = some u ∧ O' p = some (.obj a)) (h : MoOk K F H O a mo) : MoOk K F' H' O' a mo := by
  cases mo with
  | dct kvs =>
    obtain ⟨xs, h1, h2, h3, h4⟩ := h
    exact ⟨xs, (k _ _ h1 h2).1, (k _ _ h1 h2).2, h3, DRel.mono e _ _ h4⟩
  | lst l =>
    obtain ⟨xs, h1, h2, h3⟩ := h
    exact ⟨xs, (k _ _ h1 h2).1, (k _ _ h1 h2).2, RpL.mono e _ _ h3⟩
  | kn u =>
    obtain ⟨F0, h1, h2, h3⟩ := h
    exact ⟨F0, h1.trans e, h2, h3⟩
  | any u =>
    obtain ⟨F0, o, h1, h2, h3, h4⟩ := h
    exact ⟨F0, o, h1.trans e, (k _ _ h2 h3).1, (k _ _ h2 h3).2, h4⟩
  | dik kvs =>
    obtain ⟨ys, h1, h2, h3, h4⟩ := h
    exact ⟨ys, (k _ _ h1 h2).1, (k _ _ h1 h2).2, h3, RpL.mono e _ _ h4⟩
  | ins C fs =>
    obtain ⟨dx, ys, h1, h2, h3, h4⟩ := h
    exact ⟨dx, ys, (k _ _ h1 h2).1, (k _ _ h1 h2).2, h3, RpL.mono e _ _ h4⟩
  | tab q =>
    obtain ⟨ps, h1, h2, h3, h4⟩ := h
    refine ⟨ps, (k _ _ h1 h2).1, (k _ _ h1 h2).2, h3, fun pos cv hc => ?_⟩
    obtain ⟨c, e1, e2⟩ := h4 pos cv hc
    exact ⟨c, e1, e _ _ e2⟩
  | draw =>
    obtain ⟨l, big, cells, c, rest, turn, mix, h1, h2, h3, h4, h5, h6⟩ := h
    exact ⟨l, big, cells, c, rest, turn, mix, (k _ _ h1 h4).1, (k _ _ h2 h5).1, Rp.mono e _ _ h3, (k _ _ h1 h4).2, (k _ _ h2 h5).2, h6⟩
theorem Wd.g0 (A : Wd K g H M F O) (h : H p = none) : g.H0 p = none := by
  cases e : g.H0 p with
  | none => rfl
  | some o =>
    obtain ⟨o', z⟩ := A.thr p o e
    rw [h] at z
    cases z
theorem Wd.f0 (A : Wd K g H M F O) (h : H p = none) : F p = none := by
  cases e : F p with
  | none => rfl
  | some o => rw [A.sub p o e] at h; cases h
theorem Wd.o0 (A : Wd K g H M F O) (h : H p = none) : O p = none := by
  cases e : O p with
  | none => rfl
  | some o =>
    obtain ⟨⟨x, z⟩, _⟩ := A.liv p o e
    rw [h] at z
    cases z
theorem MoOk.at {mo : Mo} {p : Addr} (sm : Same F H) (h : MoOk K F H O p mo) : ∃ u, H p = some u := by
  cases mo with
  | kn u => obtain ⟨_, q1, ⟨o, q2⟩, _⟩ := h; exact ⟨o, sm _ _ (q1 _ _ q2)⟩
  | draw => obtain ⟨_, _, _, _, _, _, _, q1, _⟩ := h; exact ⟨_, q1⟩
  | dct kvs => obtain ⟨_, q1, _⟩ := h; exact ⟨_, q1⟩
  | lst l => obtain ⟨_, q1, _⟩ := h; exact ⟨_, q1⟩
  | any u => obtain ⟨_, _, _, q1, _⟩ := h; exact ⟨_, q1⟩
  | dik kvs => obtain ⟨_, q1, _⟩ := h; exact ⟨_, q1⟩
  | ins C fs => obtain ⟨_, _, q1, _⟩ := h; exact ⟨_, q1⟩
  | tab q => obtain ⟨_, q1, _⟩ := h; exact ⟨_, q1⟩
theorem Wd.m0 (A : Wd K g H M F O) (h : H p = none) : M p = none := by
  cases z : M p with
  | none => rfl
  | some mo =>
    obtain ⟨u, e⟩ := (A.mu p mo z).at A.sub
    rw [h] at e; cases e
theorem Ab.laid (A : Ab K g σ H ρ M F O) (h : H p = none) : Ab K g σ (upd H p o) ρ M F O := by
  have ne : ∀ b u, H b = some u → b ≠ p := fun b u e z => by rw [z, h] at e; cases e
  have up : ∀ b u, H b = some u → upd H p o b = some u := fun b u e => by rw [upd_ne (ne b u e)]; exact e
  exact { sub := fun b u e => up b u (A.sub b u e), ext0 := A.ext0, new := A.new, frm := fun b u e n => up b u (A.frm b u e n), thr := fun b u e => by
            obtain ⟨o', z⟩ := A.thr b u e
            exact ⟨o', up b o' z⟩
          liv := fun b u e => by
            obtain ⟨⟨x, z⟩, r⟩ := A.liv b u e
            exact ⟨⟨x, up b x z⟩, r⟩
          slo := A.slo, tm := fun q l e => by
            obtain ⟨xs, e1, e2, e3⟩ := A.tm q l e
            exact ⟨xs, up q _ e1, e2, e3⟩
          mu := fun b mo e => (A.mu b mo e).mono (Same.refl F) fun q u e1 e2 => ⟨up q u e1, e2⟩, len := A.len, sl := fun j sv e => by
            obtain ⟨v, e1, r⟩ := A.sl j sv e
            exact ⟨v, e1, r.mono (Same.refl F) fun q xs e1 e2 => ⟨up q _ e1, e2⟩⟩ }
theorem same_new (h : F p = none) : Same F (upd F p o) := fun b u e => by
  rw [upd_ne (fun z => by rw [z, h] at e; cases e)]
  exact e
theorem Ab.freeze (A : Ab K g σ H ρ M F O) (h : H p = some o) (hF : F p = none) (hO : O p = none) (h0 : g.H0 p = none) : Ab K g σ H ρ M (upd F p o) O := by
  have s : Same F (upd F p o) := same_new hF
  exact { sub := fun b u e => by
            by_cases z : b = p
            · subst z; rw [upd_same] at e; rw [h]; exact e
            · rw [upd_ne z] at e; exact A.sub b u e
          ext0 := A.ext0.trans s, new := fun b u e => by
            by_cases z : b = p
            · subst z; exact .inr h0
            · rw [upd_ne z] at e; exact A.new b u e
          frm := A.frm, thr := A.thr, liv := fun b u e => by
            obtain ⟨r1, r2, r3⟩ := A.liv b u e
            refine ⟨r1, ?_, r3⟩
            rw [upd_ne (fun z => by rw [z, hO] at e; cases e)]
            exact r2
          slo := A.slo, tm := fun q l e => by
            obtain ⟨xs, e1, e2, e3⟩ := A.tm q l e
            exact ⟨xs, e1, RpL.mono s _ _ e2, e3⟩
          mu := fun b mo e => (A.mu b mo e).mono s fun q u e1 e2 => ⟨e1, e2⟩, len := A.len, sl := fun j sv e => by
            obtain ⟨v, e1, r⟩ := A.sl j sv e
            exact ⟨v, e1, r.mono s fun q xs e1 e2 => ⟨e1, e2⟩⟩ }
theorem Ab.lay (A : Ab K g σ H ρ M F O) (h : H p = none) : Ab K g σ (upd H p o) ρ M (upd F p o) O :=
  (A.laid h).freeze upd_same (A.f0 h) (A.o0 h) (A.g0 h)
theorem Ab.gt_lt (A : Ab K g σ H ρ M F O) {sv : Sv} (e : gt ρ i = some sv) : i < σ.length := by
  rw [← A.len]
  exact Px.gt_lt e
theorem set_same {x : V} (h : i < σ.length) : (σ.set i (some x))[i]? = some (some x) := List.getElem?_set_self h
theorem gt_st_lt {sv y : Sv} (e : gt (st ρ i y) i = some sv) : i < ρ.length := by rw [← st_len ρ i y]; exact Px.gt_lt e
theorem Ab.put {d : D} {v : V} (A : Ab K g σ H ρ M F O) (r : Rp K F d v) : Ab K g (σ.set i (some v)) H (st ρ i (.val d)) M F O :=
  { toWd := A.toWd, len := by rw [st_len, List.length_set]; exact A.len, sl := fun j sv e => by
      by_cases z : j = i
      · subst z
        have e2 := gt_st_self e
        subst e2
        exact ⟨v, set_same (by rw [← A.len]; exact gt_st_lt e), r⟩
      · rw [gt_st_ne z] at e
        obtain ⟨u, e1, q⟩ := A.sl j sv e
        exact ⟨u, by rw [List.getElem?_set_ne (Ne.symm z)]; exact e1, q⟩ }
theorem Ab.putOwn {l : List D} {xs : List V} (A : Ab K g σ H ρ M F O) (h : H p = some (.lst xs)) (r : RpL K F l xs) (hF : F p = none) (hO : O p = none) (h0 : g.H0 p = none) :
    Ab K g (σ.set i (some (.ref p))) H (st ρ i (.own l)) M F (fun b => if b = p then some (.slot i) else O b) := by
  have keep : ∀ b u, O b = some u → (if b = p then some (Ow.slot i) else O b) = some u := fun b u e => by rw [if_neg (fun z => by rw [z, hO] at e; cases e)]; exact e
  exact { sub := A.sub, ext0 := A.ext0, new := A.new, frm := A.frm, thr := A.thr
          liv := fun b u e => by
            by_cases z : b = p
            · subst z; exact ⟨⟨_, h⟩, hF, .inr h0⟩
            · rw [if_neg z] at e; exact A.liv b u e
          slo := fun b j e n => by
            by_cases z : b = p
            · subst z; exact h0
            · rw [if_neg z] at e; exact A.slo b j e n
          tm := fun q l e => by
            obtain ⟨xs, e1, e2, e3⟩ := A.tm q l e
            exact ⟨xs, e1, e2, keep q _ e3⟩
          mu := fun b mo e => (A.mu b mo e).mono (Same.refl F) fun q u e1 e2 => ⟨e1, keep q _ e2⟩
          len := by rw [st_len, List.length_set]; exact A.len
          sl := fun j sv e => by
            by_cases z : j = i
            · subst z
              have e2 := gt_st_self e
              subst e2
              exact ⟨.ref p, set_same (by rw [← A.len]; exact gt_st_lt e), p, xs, rfl, h, r, if_pos rfl⟩
            · rw [gt_st_ne z] at e
              obtain ⟨u, e1, q⟩ := A.sl j sv e
              exact ⟨u, by rw [List.getElem?_set_ne (Ne.symm z)]; exact e1, q.mono (Same.refl F) fun q xs e1 e2 => ⟨e1, keep q _ e2⟩⟩ }
theorem Ab.chg {l l' : List D} {xs ys : List V} (A : Ab K g σ H ρ M F O) (hi : gt ρ i = some (.own l)) (hp : σ[i]? = some (some (.ref p))) (hO : O p = some (.slot i)) (r : RpL K F l' ys) :
    Ab K g σ (upd H p (.lst ys)) (st ρ i (.own l')) M F O := by
  have ne : ∀ b u, O b = some u → u ≠ .slot i → b ≠ p := fun b u e n z => by rw [z, hO] at e; exact n (Option.some.inj e).symm
  obtain ⟨⟨ox, hx⟩, hF, _⟩ := A.liv p _ hO
  exact { sub := fun b u e => by rw [upd_ne (fun z => by rw [z, hF] at e; cases e)]; exact A.sub b u e
          ext0 := A.ext0, new := A.new
          frm := fun b u e n => by rw [upd_ne (fun z => by rw [z, A.slo p _ hO (fun _ z => by cases z)] at e; cases e)]; exact A.frm b u e n
          thr := fun b u e => by rw [upd_ne (fun z => by rw [z, A.slo p _ hO (fun _ z => by cases z)] at e; cases e)]; exact A.thr b u e
          liv := fun b u e => by
            obtain ⟨r1, r2⟩ := A.liv b u e
            refine ⟨?_, r2⟩
            by_cases z : b = p
            · subst z; exact ⟨_, upd_same⟩
            · rw [upd_ne z]; exact r1
          slo := A.slo
          tm := fun q l e => by
            obtain ⟨xs, e1, e2, e3⟩ := A.tm q l e
            exact ⟨xs, by rw [upd_ne (ne q _ e3 (fun z => by cases z))]; exact e1, e2, e3⟩
          mu := fun b mo e => (A.mu b mo e).mono (Same.refl F) fun q u e1 e2 => ⟨by rw [upd_ne (ne q _ e2 (fun z => by cases z))]; exact e1, e2⟩
          len := by rw [st_len]; exact A.len
          sl := fun j sv e => by
            by_cases z : j = i
            · subst z
              have e2 := gt_st_self e
              subst e2
              exact ⟨.ref p, hp, p, ys, rfl, upd_same, r, hO⟩
            · rw [gt_st_ne z] at e
              obtain ⟨u, e1, q⟩ := A.sl j sv e
              exact ⟨u, e1, q.mono (Same.refl F) fun q xs e1 e2 => ⟨by rw [upd_ne (ne q _ e2 (fun y => z (by cases y; rfl)))]; exact e1, e2⟩⟩ }
theorem Ab.frz {l : List D} (A : Ab K g σ H ρ M F O) (hi : gt ρ i = some (.own l)) : ∃ F' O', Ab K g σ H (st ρ i (.val (.lst l))) M F' O' ∧ Same F F' := by
  obtain ⟨v, hv, p, xs, rfl, hp, r, hO⟩ := A.sl i _ hi
  obtain ⟨_, hF, _⟩ := A.liv p _ hO
  have s : Same F (upd F p (.lst xs)) := same_new hF
  have ne : ∀ b u, O b = some u → u ≠ .slot i → b ≠ p := fun b u e n z => by rw [z, hO] at e; exact n (Option.some.inj e).symm
  refine ⟨upd F p (.lst xs), fun b => if b = p then none else O b, ?_, s⟩
  exact { sub := fun b u e => by
            by_cases z : b = p
            · subst z; rw [upd_same] at e; rw [hp]; exact e
            · rw [upd_ne z] at e; exact A.sub b u e
          ext0 := A.ext0.trans s
          new := fun b u e => by
            by_cases z : b = p
            · subst z; exact .inr (A.slo _ _ hO (fun _ z => by cases z))
            · rw [upd_ne z] at e; exact A.new b u e
          frm := A.frm, thr := A.thr
          liv := fun b u e => by
            by_cases z : b = p
            · rw [if_pos z] at e; cases e
            · rw [if_neg z] at e
              obtain ⟨r1, r2, r3⟩ := A.liv b u e
              exact ⟨r1, by rw [upd_ne z]; exact r2, r3⟩
          slo := fun b j e n => by
            by_cases z : b = p
            · rw [if_pos z] at e; cases e
            · rw [if_neg z] at e; exact A.slo b j e n
          tm := fun q l e => by
            obtain ⟨xs, e1, e2, e3⟩ := A.tm q l e
            exact ⟨xs, e1, RpL.mono s _ _ e2, by rw [if_neg (ne q _ e3 (fun z => by cases z))]; exact e3⟩
          mu := fun b mo e => (A.mu b mo e).mono s fun q u e1 e2 => ⟨e1, by rw [if_neg (ne q _ e2 (fun z => by cases z))]; exact e2⟩
          len := by rw [st_len]; exact A.len
          sl := fun j sv e => by
            by_cases z : j = i
            · subst z
              have e2 := gt_st_self e
              subst e2
              exact ⟨.ref p, hv, p, xs, rfl, upd_same, RpL.mono s l xs r⟩
            · rw [gt_st_ne z] at e
              obtain ⟨u, e1, q⟩ := A.sl j sv e
              exact ⟨u, e1, q.mono s fun q xs e1 e2 => ⟨e1, by rw [if_neg (ne q _ e2 (fun y => z (by cases y; rfl)))]; exact e2⟩⟩ }
end
def Vw (K : PySem.W.Frag) (σ : L2.St) (ρ : Rho) (F : Hp) (d : D) (v : V) : Prop :=
  Rp K F d v ∨ ∃ i l p, gt ρ i = some (.own l) ∧ σ[i]? = some (some (.ref p)) ∧ v = .ref p ∧ d = .lst l
section
variable {K : PySem.W.Frag} {g : Gh} {σ : L2.St} {H : Hp} {ρ : Rho} {M : Mm} {F F' : Hp} {O : Own} {d : D} {v : V}
theorem Vw.mono (e : Same F F') (h : Vw K σ ρ F d v) : Vw K σ ρ F' d v := h.elim (fun h => .inl (Rp.mono e d v h)) .inr
theorem Vw.int {i : Int} (h : Vw K σ ρ F (.int i) v) : v = .int i := by
  rcases h with h | ⟨_, _, _, _, _, _, h⟩
  · exact h
  · cases h
theorem Vw.bl {i : Bool} (h : Vw K σ ρ F (.bl i) v) : v = .bl i := by
  rcases h with h | ⟨_, _, _, _, _, _, h⟩
  · exact h
  · cases h
theorem Vw.str {i : Str} (h : Vw K σ ρ F (.str i) v) : v = .str i := by
  rcases h with h | ⟨_, _, _, _, _, _, h⟩
  · exact h
  · cases h
theorem Vw.non (h : Vw K σ ρ F .non v) : v = .non := by
  rcases h with h | ⟨_, _, _, _, _, _, h⟩
  · exact h
  · cases h
theorem Vw.lst {l : List D} (A : Ab K g σ H ρ M F O) (h : Vw K σ ρ F (.lst l) v) : ∃ a xs, v = .ref a ∧ H a = some (.lst xs) ∧ RpL K F l xs := by
  rcases h with ⟨a, xs, e, s, r⟩ | ⟨i, l', p, h1, h2, h3, h4⟩
  · exact ⟨a, xs, e, A.sub _ _ s, r⟩
  · cases h4
    obtain ⟨u, e1, q, xs, e2, e3, r, e4⟩ := A.sl i _ h1
    rw [h2] at e1
    cases e1
    cases e2
    exact ⟨p, xs, h3, e3, r⟩
theorem Vw.scr {l : List Int} (A : Ab K g σ H ρ M F O) (h : Vw K σ ρ F (.scr l) v) : ∃ a, v = .ref a ∧ SqL K H a (l.map V.int) := by
  rcases h with ⟨a, e, s⟩ | ⟨_, _, _, _, _, _, h⟩
  · exact ⟨a, e, same_l A.sub s⟩
  · cases h
theorem Vw.tupF {l : List D} (h : Vw K σ ρ F (.tup l) v) : ∃ a xs, v = .ref a ∧ SqT K F a xs ∧ RpL K F l xs := by
  rcases h with h | ⟨_, _, _, _, _, _, h⟩
  · exact h
  · cases h
theorem Vw.tup {l : List D} (A : Ab K g σ H ρ M F O) (h : Vw K σ ρ F (.tup l) v) : ∃ a xs, v = .ref a ∧ SqT K H a xs ∧ RpL K F l xs := by
  rcases h with ⟨a, xs, e, s, r⟩ | ⟨_, _, _, _, _, _, h⟩
  · exact ⟨a, xs, e, same_t A.sub s, r⟩
  · cases h
end
def realO (K : PySem.W.Frag) (W : WX) (p : PTE) : TE := fun σ H Q => ∃ g ρ M F O q w, Ab K g σ H ρ M F O ∧ p w ρ M q ∧ WOk K g F W w ∧
  ∀ v H' F' O' M' d, Ab K g σ H' ρ M' F' O' → Same F F' → Vw K σ ρ F' d v → q d M' → Q v H'
theorem realO.mk {K W p σ H Q} {g : Gh} {ρ : Rho} {M : Mm} {F : Hp} {O : Own} {q w} (A : Ab K g σ H ρ M F O) (h : p w ρ M q) (hw : WOk K g F W w) (k : ∀ v H' F' O' M' d, Ab K g σ H' ρ M' F' O' → Same F F' → Vw K σ ρ F' d v → q d M' → Q v H') : realO K W p σ H Q := ⟨g, ρ, M, F, O, q, w, A, h, hw, k⟩
theorem realO.el {K W p σ H Q} {C : Prop} (h : realO K W p σ H Q) (f : ∀ g ρ M F O q w, Ab K g σ H ρ M F O → p w ρ M q → WOk K g F W w → (∀ v H' F' O' M' d, Ab K g σ H' ρ M' F' O' → Same F F' → Vw K σ ρ F' d v → q d M' → Q v H') → C) : C := by
  obtain ⟨g, ρ, M, F, O, q, w, A, a, b, c⟩ := h
  exact f g ρ M F O q w A a b c
abbrev DO (X : Cx) (W : WX) (e : Expr) (p : PTE) : Prop := PE X e (realO X.K W p)
def realL (K : PySem.W.Frag) (W : WX) (p : PTA) : TE := fun σ H Q => ∃ g ρ M F O q w, Ab K g σ H ρ M F O ∧ p w ρ M q ∧ WOk K g F W w ∧
  ∀ a xs H' F' O' M' ds, Ab K g σ H' ρ M' F' O' → Same F F' → H' a = some (.lst xs) → RpL K F' ds xs → F' a = none → O' a = none → g.H0 a = none → q ds M' → Q (.ref a) H'
theorem realL.mk {K W p σ H Q} {g : Gh} {ρ : Rho} {M : Mm} {F : Hp} {O : Own} {q w} (A : Ab K g σ H ρ M F O) (h : p w ρ M q) (hw : WOk K g F W w) (k : ∀ a xs H' F' O' M' ds, Ab K g σ H' ρ M' F' O' → Same F F' → H' a = some (.lst xs) → RpL K F' ds xs → F' a = none → O' a = none → g.H0 a = none → q ds M' → Q (.ref a) H') : realL K W p σ H Q := ⟨g, ρ, M, F, O, q, w, A, h, hw, k⟩
theorem realL.el {K W p σ H Q} {C : Prop} (h : realL K W p σ H Q) (f : ∀ g ρ M F O q w, Ab K g σ H ρ M F O → p w ρ M q → WOk K g F W w → (∀ a xs H' F' O' M' ds, Ab K g σ H' ρ M' F' O' → Same F F' → H' a = some (.lst xs) → RpL K F' ds xs → F' a = none → O' a = none → g.H0 a = none → q ds M' → Q (.ref a) H') → C) : C := by
  obtain ⟨g, ρ, M, F, O, q, w, A, a, b, c⟩ := h
  exact f g ρ M F O q w A a b c
abbrev DL (X : Cx) (W : WX) (e : Expr) (p : PTA) : Prop := PE X e (realL X.K W p)
def dL (p : PTA) : PTE := fun w ρ M q => p w ρ M fun ds M' => q (.lst ds) M'
section
variable {X : Cx} {W : WX} {a b c e : Expr} {es : List Expr} {pa pb pc : PTE} {pl : PTA} {pos : Pos}
theorem do_of (h : DE X W e pa) : DO X W e pa := pe_imp h fun σ H Q hE => hE.el fun g ρ M F O q w A p hw k =>
  (.mk (q := q) A p hw (fun v H' F' O' M' d A' s r q => k v H' F' O' M' d A' s (.inl r) q))
theorem de_l (h : DL X W e pl) : DE X W e (dL pl) := pe_imp h fun σ H Q hE => hE.el fun g ρ M F O q w A p hw k =>
  (.mk A p hw (fun a xs H' F' O' M' ds A' s hH r hF hO h0 q =>
    have s2 : Same F' (upd F' a (.lst xs)) := same_new hF
    k (.ref a) H' _ O' M' (.lst ds) (A'.freeze hH hF hO h0) (s.trans s2) ⟨a, xs, rfl, upd_same, RpL.mono s2 ds xs r⟩ q))
def dVar (i : Nat) : PTE := fun _ ρ M q => match gt ρ i with | some (.val d) => q d M | _ => False
def dOwn (i : Nat) : PTE := fun _ ρ M q => match gt ρ i with | some (.val d) => q d M | some (.own l) => q (.lst l) M | _ => False
theorem dv (i : Nat) {x : Str} {pos : Pos} (hN : X.N[i]? = some x := by rfl) (hv : Vis X.env.scope x := by first | exact Or.inl rfl | exact Or.inr (Or.inl rfl) | exact Or.inr (Or.inr rfl)) (hd : (x == ("__debug__" : Str)) = false := by decide)
    (hcd : (x == ("__classdict__" : Str)) = false := by decide) : DE X W (.Name x pos) (dVar i) := pe_imp (pv i hN hv hd hcd) fun σ H Q hE => hE.el fun g ρ M F O q w A p hw k => by
  unfold dVar at p
  split at p
  · rename_i d e
    obtain ⟨v, e1, r⟩ := A.sl i _ e
    exact ⟨v, e1, k v H F O M d A (Same.refl F) r p⟩
  · exact p.elim
theorem dn (i : Nat) {x : Str} {pos : Pos} (hN : X.N[i]? = some x := by rfl) (hv : Vis X.env.scope x := by first | exact Or.inl rfl | exact Or.inr (Or.inl rfl) | exact Or.inr (Or.inr rfl)) (hd : (x == ("__debug__" : Str)) = false := by decide)
    (hcd : (x == ("__classdict__" : Str)) = false := by decide) : DO X W (.Name x pos) (dOwn i) := pe_imp (pv i hN hv hd hcd) fun σ H Q hE => hE.el fun g ρ M F O q w A p hw k => by
  unfold dOwn at p
  split at p
  · rename_i d e
    obtain ⟨v, e1, r⟩ := A.sl i _ e
    exact ⟨v, e1, k v H F O M d A (Same.refl F) (.inl r) p⟩
  · rename_i l e
    obtain ⟨v, e1, a, xs, rfl, h2, r, h3⟩ := A.sl i _ e
    exact ⟨.ref a, e1, k (.ref a) H F O M (.lst l) A (Same.refl F) (.inr ⟨i, l, a, e, e1, rfl, rfl⟩) p⟩
  · exact p.elim
def dC (d : D) : PTE := fun _ _ M q => q d M
theorem dc_of {v : V} {d : D} (h : PE X e (tC v)) (hr : ∀ F, Rp X.K F d v) : DE X W e (dC d) := pe_imp h fun σ H Q hE => hE.el fun g ρ M F O q w A p hw k => k v H F O M d A (Same.refl F) (hr F) p
theorem de_int {i : Int} {j : Nat} : DE X W (.Constant (.int i) j pos) (dC (.int i)) := dc_of pe_int fun _ => rfl
theorem de_bl {i : Bool} {j : Nat} : DE X W (.Constant (.bool i) j pos) (dC (.bl i)) := dc_of pe_bl fun _ => rfl
theorem de_non {j : Nat} : DE X W (.Constant .none j pos) (dC .non) := dc_of pe_non fun _ => rfl
theorem de_gint {x : Str} {i : Int} {t : Tok} (hg : Gl X x) (hm : X.mg x = some (.int i t)) (hd : (x == ("__debug__" : Str)) = false := by decide) : DE X W (.Name x pos) (dC (.int i)) := dc_of (v := .int i) (pe_glob hg hm (show RelV (.int i) _ from ⟨t, rfl⟩) hd) fun _ => rfl
abbrev F2 := D → D → (D → Prop) → Prop
def OpF (K : PySem.W.Frag) (r : R2) (f : F2) : Prop := ∀ g σ H ρ M F O x y v u (k : D → Prop) (Q : VK), Ab K g σ H ρ M F O → Vw K σ ρ F x v → Vw K σ ρ F y u → f x y k →
  (∀ z w H' F' O', Ab K g σ H' ρ M F' O' → Same F F' → Rp K F' z w → k z → Q w H') → r v u H Q
def dOp (f : F2) (pa pb : PTE) : PTE := fun w ρ M q => pa w ρ M fun x M1 => pb w ρ M1 fun y M2 => f x y fun z => q z M2
theorem op_run {r : R2} {f : F2} (hf : OpF X.K r f) {σ : L2.St} {H : Hp} {Q : VK} (h : real X.K W (dOp f pa pb) σ H Q) : tOp r (realO X.K W pa) (realO X.K W pb) σ H Q := by
  obtain ⟨g, ρ, M, F, O, q, w, A, p, hw, k⟩ := h
  exact (.mk A p hw (fun v H1 F1 O1 M1 d A1 s1 r1 q1 => (.mk A1 q1 (hw.mono s1) (fun u H2 F2 O2 M2 e A2 s2 r2 q2 =>
    hf g σ H2 ρ M2 F2 O2 d e v u _ Q A2 (r1.mono s2) r2 q2 fun z w3 H3 F3 O3 A3 s3 r3 q3 => k w3 H3 F3 O3 M2 z A3 ((s1.trans s2).trans s3) r3 q3))))
theorem de_op {op : Operator} {r : R2} {f : F2} (ho : OpR X (binaryOp op) r) (hf : OpF X.K r f) (ha : DO X W a pa) (hb : DO X W b pb) : DE X W (.BinOp a op b pos) (dOp f pa pb) := pe_imp (pe_op ho ha hb) fun σ H Q h => op_run hf h
theorem de_cmp {op : CmpOp} {r : R2} {f : F2} (ho : OpR X (compareOp op) r) (hf : OpF X.K r f) (ha : DO X W a pa) (hb : DO X W b pb) (hm : behindInMarks op b = false) : DE X W (.Compare a [op] [b] pos) (dOp f pa pb) := pe_imp (pe_cmpR ho ha hb hm) fun σ H Q h => op_run hf h
def isB (d : D) (k : Bool → Prop) : Prop := match d with | .bl b => k b | _ => False
def dTst (p : PTE) : PTT := fun w ρ M q => p w ρ M fun d M' => isB d fun b => q b M'
theorem isB_run {F : Hp} {K : PySem.W.Frag} {d : D} {v : V} {k : Bool → Prop} (r : Rp K F d v) (h : isB d k) : ∃ b, v = .bl b ∧ k b := by
  unfold isB at h
  split at h
  · exact ⟨_, r, h⟩
  · exact h.elim
theorem tst_run {t : TE} {p : PTE} (h : ∀ σ H Q, real X.K W p σ H Q → t σ H Q) {σ : L2.St} {H : Hp} {Q : Bool → Hp → Prop} (hh : realT X.K W (dTst p) σ H Q) : tTest t σ H Q := by
  obtain ⟨g, ρ, M, F, O, q, w, A, p, hw, k⟩ := hh
  refine h σ H _ (.mk A p hw (fun v H1 F1 O1 M1 d A1 s1 r1 q1 => ?_))
  obtain ⟨b, e, q2⟩ := isB_run r1 q1
  exact ⟨b, e, k b H1 F1 O1 M1 A1 s1 q2⟩
theorem dt_cmp {op : CmpOp} {r : R2} {f : F2} (ho : OpR X (compareOp op) r) (hf : OpF X.K r f) (ha : DO X W a pa) (hb : DO X W b pb) (hm : behindInMarks op b = false) : DT X W (.Compare a [op] [b] pos) (dTst (dOp f pa pb)) :=
  pt_imp (pt_cmpR ho ha hb hm) fun σ H Q h => tst_run (t := tOp r (realO X.K W pa) (realO X.K W pb)) (fun _ _ _ h => op_run hf h) h
theorem dt_val (h : DE X W e pa) (he : ∀ whole, isTrue e X.env whole = (do let v ← whole; standAt e.pos; holding [v] (truthy v)) := by intro _; rfl) : DT X W e (dTst pa) := pt_imp (pt_val h he) fun σ H Q hh => tst_run (t := real X.K W pa) (fun _ _ _ h => h) hh
def dChain (f f' : F2) (pa pb pc : PTE) : PTE := fun w ρ M q => pa w ρ M fun x M1 => pb w ρ M1 fun y M2 => f x y fun z => isB z fun k => if k = true then pc w ρ M2 fun u M3 => f' y u fun z => q z M3 else q (.bl false) M2
theorem chain_run {r r' : R2} {f f' : F2} (hf : OpF X.K r f) (hf' : OpF X.K r' f') {σ : L2.St} {H : Hp} {Q : VK} (h : real X.K W (dChain f f' pa pb pc) σ H Q) : tChain r r' (realO X.K W pa) (realO X.K W pb) (realO X.K W pc) σ H Q := by
  obtain ⟨g, ρ, M, F, O, q, w, A, p, hw, k⟩ := h
  refine (.mk A p hw (fun v H1 F1 O1 M1 d A1 s1 r1 q1 => (.mk A1 q1 (hw.mono s1) (fun u H2 F2 O2 M2 e A2 s2 r2 q2 =>
    hf g σ H2 ρ M2 F2 O2 d e v u _ _ A2 (r1.mono s2) r2 q2 fun z w3 H3 F3 O3 A3 s3 r3 q3 => ?_))))
  obtain ⟨b, eb, q4⟩ := isB_run r3 q3
  refine ⟨b, eb, ?_⟩
  cases b with
  | true =>
    exact (.mk A3 q4 (hw.mono ((s1.trans s2).trans s3)) (fun u4 H4 F4 O4 M4 e4 A4 s4 r4 q5 =>
      hf' g σ H4 ρ M4 F4 O4 e e4 u u4 _ Q A4 (r2.mono (s3.trans s4)) r4 q5 fun z5 w5 H5 F5 O5 A5 s5 r5 q5 => k w5 H5 F5 O5 M4 z5 A5 ((((s1.trans s2).trans s3).trans s4).trans s5) r5 q5))
  | false => exact k (.bl false) H3 F3 O3 M2 (.bl false) A3 ((s1.trans s2).trans s3) rfl q4
theorem de_chain {op op' : CmpOp} {r r' : R2} {f f' : F2} (ho : OpR X (compareOp op) r) (hf : OpF X.K r f) (ho' : OpR X (compareOp op') r') (hf' : OpF X.K r' f') (ha : DO X W a pa) (hb : DO X W b pb) (hc : DO X W c pc)
    (hm : lastMarks [op, op'] [b, c] = false := by with_unfolding_all rfl) : DE X W (.Compare a [op, op'] [b, c] pos) (dChain f f' pa pb pc) := pe_imp (pe_chain ho ho' ha hb hc hm) fun σ H Q h => chain_run hf hf' h
end
end Px
set_option Elab.async false
set_option linter.all false
set_option maxRecDepth 100000
namespace Px
open PySem PySem.Spec PyProof.Rows L2
def fAdd : F2
  | .int i, .int j, k => k (.int (i + j))
  | .lst a, .lst b, k => a.length + b.length ≤ 1000000 ∧ k (.lst (a ++ b))
  | .tup a, .tup b, k => a.length + b.length ≤ 1000000 ∧ k (.tup (a ++ b))
  | .str a, .str b, k => a.length + b.length ≤ 1000000 ∧ k (.str (a ++ b))
  | _, _, _ => False
def fSub : F2
  | .int i, .int j, k => k (.int (i - j))
  | _, _, _ => False
def fMul : F2
  | .int i, .int j, k => CMulX i j ∧ k (.int (i * j))
  | .lst a, .int n, k => -1000000 ≤ n ∧ n ≤ 1000000 ∧ a.length * n.toNat ≤ 1000000 ∧ k (.lst (List.replicate n.toNat a).flatten)
  | _, _, _ => False
def fDiv : F2
  | .int i, .int j, k => CDivW i j ∧ k (.int (i / j))
  | _, _, _ => False
def fMod : F2
  | .int i, .int j, k => 0 < j ∧ k (.int (i % j))
  | _, _, _ => False
def fPow : F2
  | .int i, .int j, k => CPow i j ∧ k (.int (i ^ j.toNat))
  | _, _, _ => False
def fCmp (p : Int → Int → Bool) : F2
  | .int i, .int j, k => k (.bl (p i j))
  | _, _, _ => False
abbrev fLt : F2 := fCmp fun i j => decide (i < j)
abbrev fLe : F2 := fCmp fun i j => decide (i ≤ j)
abbrev fGt : F2 := fCmp fun i j => decide (j < i)
abbrev fGe : F2 := fCmp fun i j => decide (j ≤ i)
theorem line_big {n : Nat} (h : n ≤ 1000000) : n ≤ sizeLine := Nat.le_trans h (by decide)
section
variable {X : Cx} {K : PySem.W.Frag}
theorem RpL.flat {F : Hp} {ds : List D} {xs : List V} (h : RpL K F ds xs) : ∀ n : Nat, RpL K F (List.replicate n ds).flatten (List.replicate n xs).flatten
  | 0 => rfl
  | n + 1 => by rw [List.replicate_succ, List.replicate_succ, List.flatten_cons, List.flatten_cons]; exact h.app (RpL.flat h n)
theorem OpF.new {g : Gh} {σ : L2.St} {H : Hp} {ρ : Rho} {M : Mm} {F : Hp} {O : Own} {Q : VK} {o : HO} {d : D} {k : D → Prop} (A : Ab K g σ H ρ M F O) (c : ∀ z w H' F' O', Ab K g σ H' ρ M F' O' → Same F F' → Rp K F' z w → k z → Q w H')
    (hk : k d) (hr : ∀ p, (upd F p o) p = some o → Same F (upd F p o) → Rp K (upd F p o) d (.ref p)) : ∀ p, H p = none → Q (.ref p) (upd H p o) := fun p hp =>
  have s := same_new (o := o) (A.f0 hp)
  c d (.ref p) _ _ _ (A.lay hp) s (hr p upd_same s) hk
theorem opf_add : OpF K (fun x y H Q => rI0 (fun i j => .int (i + j)) x y H Q ∨ rCat x y H Q ∨ rCatA K x y H Q ∨ ∃ i j, x = .str i ∧ y = .str j ∧ i.length + j.length ≤ sizeLine ∧ Q (.str (i ++ j)) H) fAdd := by
  intro g σ H ρ M F O x y v u k Q A rx ry h c
  unfold fAdd at h
  split at h
  · rename_i i j
    exact .inl ⟨i, j, rx.int, ry.int, c (.int (i + j)) _ H F O A (Same.refl F) rfl h⟩
  · rename_i a b
    obtain ⟨p, xs, e1, h1, r1⟩ := rx.lst A
    obtain ⟨q, ys, e2, h2, r2⟩ := ry.lst A
    obtain ⟨hz, hk⟩ := h
    exact .inr (.inl ⟨p, q, xs, ys, e1, e2, h1, h2, by rw [← r1.len, ← r2.len]; exact line_big hz, OpF.new A c hk fun p e s => ⟨p, _, rfl, e, (RpL.mono s _ _ r1).app (RpL.mono s _ _ r2)⟩⟩)
  · rename_i a b
    obtain ⟨p, xs, e1, h1, r1⟩ := rx.tupF
    obtain ⟨q, ys, e2, h2, r2⟩ := ry.tupF
    obtain ⟨hz, hk⟩ := h
    refine .inr (.inr (.inl ⟨p, q, xs, ys, e1, e2, same_t A.sub h1, same_t A.sub h2, by rw [← r1.len, ← r2.len]; exact line_big hz, fun e => ?_, fun _ e => ?_, fun _ _ => ?_⟩))
    · subst e
      have ea : a = [] := List.length_eq_zero_iff.mp r1.len
      subst ea
      exact c (.tup b) _ H F O A (Same.refl F) ⟨q, ys, rfl, h2, r2⟩ hk
    · subst e
      have eb : b = [] := List.length_eq_zero_iff.mp r2.len
      subst eb
      rw [List.append_nil] at hk
      exact c (.tup a) _ H F O A (Same.refl F) ⟨p, xs, rfl, h1, r1⟩ hk
    · exact OpF.new A c hk fun p e s => ⟨p, _, rfl, .inl (.inl e), (RpL.mono s _ _ r1).app (RpL.mono s _ _ r2)⟩
  · rename_i a b
    obtain ⟨hz, hk⟩ := h
    exact .inr (.inr (.inr ⟨a, b, rx.str, ry.str, line_big hz, c (.str (a ++ b)) _ H F O A (Same.refl F) rfl hk⟩))
  · exact h.elim
theorem o_add : OpR X (binaryOp .Add) (fun x y H Q => rI0 (fun i j => .int (i + j)) x y H Q ∨ rCat x y H Q ∨ rCatA X.K x y H Q ∨ ∃ i j, x = .str i ∧ y = .str j ∧ i.length + j.length ≤ sizeLine ∧ Q (.str (i ++ j)) H) :=
  op_add.or (op_cat.or (op_catA.or op_add_str))
theorem opf_i {C : Int → Int → Prop} {h : Int → Int → V} {h' : Int → Int → D} {f : F2} (hh : ∀ F i j, Rp K F (h' i j) (h i j)) (hf : ∀ x y k, f x y k → ∃ i j, x = .int i ∧ y = .int j ∧ C i j ∧ k (h' i j)) : OpF K (rI C h) f := by
  intro g σ H ρ M F O x y v u k Q A rx ry h c
  obtain ⟨i, j, rfl, rfl, hc, hk⟩ := hf x y k h
  exact ⟨i, j, rx.int, ry.int, hc, c _ _ H F O A (Same.refl F) (hh F i j) hk⟩
theorem opf_i0 {h : Int → Int → V} {h' : Int → Int → D} {f : F2} (hh : ∀ F i j, Rp K F (h' i j) (h i j)) (hf : ∀ x y k, f x y k → ∃ i j, x = .int i ∧ y = .int j ∧ k (h' i j)) : OpF K (rI0 h) f := by
  intro g σ H ρ M F O x y v u k Q A rx ry h c
  obtain ⟨i, j, rfl, rfl, hk⟩ := hf x y k h
  exact ⟨i, j, rx.int, ry.int, c _ _ H F O A (Same.refl F) (hh F i j) hk⟩
theorem opf_sub : OpF K (rI0 fun i j => .int (i - j)) fSub := opf_i0 (h' := fun i j => .int (i - j)) (fun _ _ _ => rfl) fun x y k h => by
  unfold fSub at h
  split at h
  · exact ⟨_, _, rfl, rfl, h⟩
  · exact h.elim
theorem opf_div : OpF K (rI CDivW fun i j => .int (i / j)) fDiv := opf_i (h' := fun i j => .int (i / j)) (fun _ _ _ => rfl) fun x y k h => by
  unfold fDiv at h
  split at h
  · exact ⟨_, _, rfl, rfl, h⟩
  · exact h.elim
theorem opf_mod : OpF K (rI (fun _ j => 0 < j) fun i j => .int (i % j)) fMod := opf_i (h' := fun i j => .int (i % j)) (fun _ _ _ => rfl) fun x y k h => by
  unfold fMod at h
  split at h
  · exact ⟨_, _, rfl, rfl, h⟩
  · exact h.elim
theorem opf_pow : OpF K (rI CPow fun i j => .int (i ^ j.toNat)) fPow := opf_i (h' := fun i j => .int (i ^ j.toNat)) (fun _ _ _ => rfl) fun x y k h => by
  unfold fPow at h
  split at h
  · exact ⟨_, _, rfl, rfl, h⟩
  · exact h.elim
theorem opf_cmp {p : Int → Int → Bool} : OpF K (rI0 fun i j => .bl (p i j)) (fCmp p) := opf_i0 (h' := fun i j => .bl (p i j)) (fun _ _ _ => rfl) fun x y k h => by
  unfold fCmp at h
  split at h
  · exact ⟨_, _, rfl, rfl, h⟩
  · exact h.elim
theorem opf_mul : OpF K (fun x y H Q => rI CMulX (fun i j => .int (i * j)) x y H Q ∨ rRep x y H Q) fMul := by
  intro g σ H ρ M F O x y v u k Q A rx ry h c
  unfold fMul at h
  split at h
  · rename_i i j
    exact .inl ⟨i, j, rx.int, ry.int, h.1, c (.int (i * j)) _ H F O A (Same.refl F) rfl h.2⟩
  · rename_i a n
    obtain ⟨p, xs, e1, h1, r1⟩ := rx.lst A
    obtain ⟨z1, z2, z3, hk⟩ := h
    exact .inr ⟨p, n, xs, e1, ry.int, h1, by omega, by omega, by rw [← r1.len]; exact line_big z3, OpF.new A c hk fun p e s => ⟨p, _, rfl, e, (RpL.mono s _ _ r1).flat _⟩⟩
  · exact h.elim
theorem o_mul : OpR X (binaryOp .Mult) (fun x y H Q => rI CMulX (fun i j => .int (i * j)) x y H Q ∨ rRep x y H Q) := op_mulX.or op_rep
mutual
def toPy : D → PyData
  | .non => .none
  | .bl b => .bool b
  | .int i => .int i
  | .str s => .str s
  | .tup l => .tuple (toPyL l)
  | .lst l => .list (toPyL l)
  | .dic _ _ => .none
  | .obj _ _ _ => .none
  | .raw _ => .none
  | .scr _ => .none
  | .clo _ _ _ _ _ => .none
  | .fnc _ _ _ _ => .none
  | .exv _ _ _ _ _ => .none
def toPyL : List D → List PyData
  | [] => []
  | d :: ds => toPy d :: toPyL ds
end
def okD : Nat → D → Bool
  | _, .non => true
  | _, .bl _ => true
  | _, .int _ => true
  | _, .str s => PyData.strOk s
  | n + 1, .tup l => l.all (okD n)
  | n + 1, .lst l => l.all (okD n)
  | _, _ => false
def okP : Nat → D → Prop
  | _, .non => True
  | _, .bl _ => True
  | _, .int _ => True
  | _, .str s => PyData.strOk s = true
  | n + 1, .tup l => ∀ d ∈ l, okP n d
  | n + 1, .lst l => ∀ d ∈ l, okP n d
  | _, _ => False
theorem okP_of : ∀ (n : Nat) (d : D), okD n d = true → okP n d := by
  intro n
  induction n with
  | zero =>
    intro d h
    cases d <;> first | trivial | exact h | (cases h)
  | succ n ih =>
    intro d h
    cases d with
    | tup l => exact fun d hd => ih d (List.all_eq_true.mp (show l.all (okD n) = true from h) d hd)
    | lst l => exact fun d hd => ih d (List.all_eq_true.mp (show l.all (okD n) = true from h) d hd)
    | _ => first | trivial | exact h | (cases h)
theorem lay_all : ∀ {l : List D}, (∀ d ∈ l, (toPy d).canLay0 = true) → PyData.canLayAll0 (toPyL l) = true
  | [], _ => rfl
  | d :: ds, h => by
    show ((toPy d).canLay0 && PyData.canLayAll0 (toPyL ds)) = true
    rw [h d List.mem_cons_self, lay_all fun e he => h e (List.mem_cons_of_mem _ he)]
    rfl
theorem deep_all {n : Nat} : ∀ {l : List D}, (∀ d ∈ l, (toPy d).depth ≤ n) → PyData.depthAll (toPyL l) ≤ n
  | [], _ => Nat.zero_le _
  | d :: ds, h => by
    show max (toPy d).depth (PyData.depthAll (toPyL ds)) ≤ n
    exact Nat.max_le.mpr ⟨h d List.mem_cons_self, deep_all fun e he => h e (List.mem_cons_of_mem _ he)⟩
theorem py_ok : ∀ (n : Nat) (d : D), okP n d → (toPy d).canLay0 = true ∧ (toPy d).depth ≤ n := by
  intro n
  induction n with
  | zero =>
    intro d h
    cases d <;> first | exact ⟨rfl, Nat.zero_le _⟩ | exact ⟨h, Nat.zero_le _⟩ | exact h.elim
  | succ n ih =>
    intro d h
    cases d with
    | tup l => exact ⟨lay_all fun d hd => (ih d (h d hd)).1, Nat.succ_le_succ (deep_all fun d hd => (ih d (h d hd)).2)⟩
    | lst l => exact ⟨lay_all fun d hd => (ih d (h d hd)).1, Nat.succ_le_succ (deep_all fun d hd => (ih d (h d hd)).2)⟩
    | _ => first | exact ⟨rfl, Nat.zero_le _⟩ | exact ⟨h, Nat.zero_le _⟩ | exact h.elim
theorem dp_all {F : Hp} {n : Nat} (ih : ∀ d v, okP n d → Rp K F d v → Dp K F v (toPy d)) : ∀ {l : List D} {xs : List V}, (∀ d ∈ l, okP n d) → RpL K F l xs → DpAll K F xs (toPyL l)
  | [], _, _, r => by rw [show _ = [] from r]; exact .nil
  | d :: ds, _, h, ⟨x, r, e, q, t⟩ => by
    rw [e]
    exact .cons (ih d x (h d List.mem_cons_self) q) (dp_all ih (fun e he => h e (List.mem_cons_of_mem _ he)) t)
theorem dp_of {F : Hp} : ∀ (n : Nat) (d : D) (v : V), okP n d → Rp K F d v → Dp K F v (toPy d) := by
  intro n
  induction n with
  | zero =>
    intro d v h r
    cases d <;> first | (rw [show v = _ from r]; constructor) | exact h.elim
  | succ n ih =>
    intro d v h r
    cases d with
    | tup l =>
      obtain ⟨a, xs, e, s, q⟩ := r
      rw [e]
      exact .tup s (dp_all ih h q)
    | lst l =>
      obtain ⟨a, xs, e, s, q⟩ := r
      rw [e]
      exact .lst (.inl (.inl s)) (dp_all ih h q)
    | _ => first | (rw [show v = _ from r]; constructor) | exact h.elim
mutual
theorem Dp.up {F H : Hp} (s : Same F H) : ∀ (e : PyData) (v : V), Dp K F v e → Dp K H v e
  | .none, _, h => by cases h; exact .non
  | .bool b, _, h => by cases h; exact .bl b
  | .int i, _, h => by cases h; exact .int i
  | .str x, _, h => by cases h; exact .str x
  | .list ds, _, h => by
    cases h with
    | lst q t => exact .lst (same_l s q) (DpAll.up s ds _ t)
  | .tuple ds, _, h => by
    cases h with
    | tup q t => exact .tup (same_t s q) (DpAll.up s ds _ t)
  | .dict _, _, h => by cases h
theorem DpAll.up {F H : Hp} (s : Same F H) : ∀ (es : List PyData) (vs : List V), DpAll K F vs es → DpAll K H vs es
  | [], _, h => by cases h; exact .nil
  | e :: es, _, h => by
    cases h with
    | cons q t => exact .cons (Dp.up s e _ q) (DpAll.up s es _ t)
end
theorem vw_dp {g : Gh} {σ : L2.St} {H : Hp} {ρ : Rho} {M : Mm} {F : Hp} {O : Own} {d : D} {v : V} {n : Nat} (A : Ab K g σ H ρ M F O) (h : okP n d) (r : Vw K σ ρ F d v) : Dp K H v (toPy d) := by
  rcases r with r | ⟨i, l, p, h1, h2, h3, h4⟩
  · exact Dp.up A.sub _ _ (dp_of n d v h r)
  · subst h4
    obtain ⟨q, xs, e1, e2, e3⟩ := Vw.lst A (.inr ⟨i, l, p, h1, h2, h3, rfl⟩)
    rw [e1]
    cases n with
    | zero => exact h.elim
    | succ n => exact .lst (.inl (.inl e2)) (DpAll.up A.sub _ _ (dp_all (fun d v => dp_of n d v) h e3))
theorem shaped_ok {n : Nat} {d : D} (h : okP n d) (hn : n ≤ 64) : SeqAt.shaped (toPy d) = true := by
  obtain ⟨h1, h2⟩ := py_ok n d h
  unfold SeqAt.shaped
  rw [h1, decide_eq_true (Nat.le_trans h2 hn)]
  rfl
def eqD (x y : D) : Bool := PyData.eqv (toPy x) (toPy y)
def fEq : F2 := fun x y k => (okD 50 x && okD 50 y) = true ∧ k (.bl (eqD x y))
def fNe : F2 := fun x y k => (okD 50 x && okD 50 y) = true ∧ k (.bl (!eqD x y))
theorem opf_eq : OpF K (rEqD K) fEq := by
  intro g σ H ρ M F O x y v u k Q A rx ry h c
  obtain ⟨h1, hk⟩ := h
  obtain ⟨hx, hy⟩ := Bool.and_eq_true_iff.mp h1
  have px := okP_of _ _ hx
  have py := okP_of _ _ hy
  exact ⟨_, _, vw_dp A px rx, vw_dp A py ry, shaped_ok px (by decide), shaped_ok py (by decide), c (.bl (eqD x y)) _ H F O A (Same.refl F) rfl hk⟩
theorem opf_ne : OpF K (rNeD K) fNe := by
  intro g σ H ρ M F O x y v u k Q A rx ry h c
  obtain ⟨h1, hk⟩ := h
  obtain ⟨hx, hy⟩ := Bool.and_eq_true_iff.mp h1
  have px := okP_of _ _ hx
  have py := okP_of _ _ hy
  exact ⟨_, _, vw_dp A px rx, vw_dp A py ry, shaped_ok px (by decide), shaped_ok py (by decide), c (.bl (!eqD x y)) _ H F O A (Same.refl F) rfl hk⟩
def isN : D → Bool
  | .non => true
  | _ => false
theorem rp_isN {F : Hp} {d : D} {v : V} (h : match d with | .raw _ => False | _ => True) (r : Rp K F d v) : decide (v = .non) = isN d := by
  cases d with
  | non => rw [show v = .non from r]; rfl
  | bl b => rw [show v = .bl b from r]; rfl
  | int b => rw [show v = .int b from r]; rfl
  | str b => rw [show v = .str b from r]; rfl
  | tup l => obtain ⟨a, xs, e, _⟩ := r; rw [e]; rfl
  | lst l => obtain ⟨a, xs, e, _⟩ := r; rw [e]; rfl
  | dic ks l => obtain ⟨a, xs, e, _⟩ := r; rw [e]; rfl
  | obj C ns l => obtain ⟨a, dx, xs, e, _⟩ := r; rw [e]; rfl
  | raw w => exact h.elim
  | scr l => obtain ⟨a, e, _⟩ := r; rw [e]; rfl
  | clo _ _ _ _ _ => rw [r.1]; rfl
  | fnc _ _ _ _ => rw [r.1]; rfl
  | exv _ _ _ _ _ => rw [r.1]; rfl
def noRaw : D → Bool
  | .raw _ => false
  | _ => true
def fIs : F2 := fun x y k => match y with | .non => noRaw x = true ∧ k (.bl (isN x)) | _ => False
def fIsNot : F2 := fun x y k => match y with | .non => noRaw x = true ∧ k (.bl (!isN x)) | _ => False
theorem vw_isN {σ : L2.St} {ρ : Rho} {F : Hp} {d : D} {v : V} (h : noRaw d = true) (r : Vw K σ ρ F d v) : decide (v = .non) = isN d := by
  rcases r with r | ⟨i, l, p, h1, h2, h3, h4⟩
  · exact rp_isN (by cases d <;> first | trivial | (cases h)) r
  · subst h4; rw [h3]; rfl
theorem opf_is : OpF K (fun x y H Q => y = .non ∧ Q (.bl (decide (x = .non))) H) fIs := by
  intro g σ H ρ M F O x y v u k Q A rx ry h c
  unfold fIs at h
  split at h
  · exact ⟨ry.non, by rw [vw_isN h.1 rx]; exact c (.bl (isN x)) _ H F O A (Same.refl F) rfl h.2⟩
  · exact h.elim
theorem opf_isnot : OpF K (fun x y H Q => y = .non ∧ Q (.bl (!decide (x = .non))) H) fIsNot := by
  intro g σ H ρ M F O x y v u k Q A rx ry h c
  unfold fIsNot at h
  split at h
  · exact ⟨ry.non, by rw [vw_isN h.1 rx]; exact c (.bl (!isN x)) _ H F O A (Same.refl F) rfl h.2⟩
  · exact h.elim
end
section
variable {X : Cx} {W : WX} {a b c e i : Expr} {es rest : List Expr} {pa pb pc : PTE} {ta tb tc : PTT} {pl : PTA} {pos : Pos}
theorem de_add (ha : DO X W a pa) (hb : DO X W b pb) : DE X W (.BinOp a .Add b pos) (dOp fAdd pa pb) := de_op o_add opf_add ha hb
theorem de_sub (ha : DO X W a pa) (hb : DO X W b pb) : DE X W (.BinOp a .Sub b pos) (dOp fSub pa pb) := de_op op_sub opf_sub ha hb
theorem de_mul (ha : DO X W a pa) (hb : DO X W b pb) : DE X W (.BinOp a .Mult b pos) (dOp fMul pa pb) := de_op o_mul opf_mul ha hb
theorem de_div (ha : DO X W a pa) (hb : DO X W b pb) : DE X W (.BinOp a .FloorDiv b pos) (dOp fDiv pa pb) := de_op op_fdivW opf_div ha hb
theorem de_mod (ha : DO X W a pa) (hb : DO X W b pb) : DE X W (.BinOp a .Mod b pos) (dOp fMod pa pb) := de_op op_mod opf_mod ha hb
theorem de_pow (ha : DO X W a pa) (hb : DO X W b pb) : DE X W (.BinOp a .Pow b pos) (dOp fPow pa pb) := de_op op_pow opf_pow ha hb
theorem de_gt (ha : DO X W a pa) (hb : DO X W b pb) : DE X W (.Compare a [.Gt] [b] pos) (dOp fGt pa pb) := de_cmp op_gt opf_cmp ha hb (nomark _)
theorem de_eq (hu : X.A.units + 64 < cLine) (ha : DO X W a pa) (hb : DO X W b pb) : DE X W (.Compare a [.Eq] [b] pos) (dOp fEq pa pb) := de_cmp (op_eqD hu) opf_eq ha hb (nomark _)
theorem de_is (ha : DO X W a pa) (hb : DO X W b pb) : DE X W (.Compare a [.Is] [b] pos) (dOp fIs pa pb) := de_cmp op_isN opf_is ha hb (nomark _)
theorem de_isnot (ha : DO X W a pa) (hb : DO X W b pb) : DE X W (.Compare a [.IsNot] [b] pos) (dOp fIsNot pa pb) := de_cmp op_notN opf_isnot ha hb (nomark _)
theorem dt_lt (ha : DO X W a pa) (hb : DO X W b pb) : DT X W (.Compare a [.Lt] [b] pos) (dTst (dOp fLt pa pb)) := dt_cmp op_lt opf_cmp ha hb (nomark _)
theorem dt_gt (ha : DO X W a pa) (hb : DO X W b pb) : DT X W (.Compare a [.Gt] [b] pos) (dTst (dOp fGt pa pb)) := dt_cmp op_gt opf_cmp ha hb (nomark _)
theorem dt_ge (ha : DO X W a pa) (hb : DO X W b pb) : DT X W (.Compare a [.GtE] [b] pos) (dTst (dOp fGe pa pb)) := dt_cmp op_ge opf_cmp ha hb (nomark _)
theorem dt_eq (hu : X.A.units + 64 < cLine) (ha : DO X W a pa) (hb : DO X W b pb) : DT X W (.Compare a [.Eq] [b] pos) (dTst (dOp fEq pa pb)) := dt_cmp (op_eqD hu) opf_eq ha hb (nomark _)
theorem dt_ne (hu : X.A.units + 64 < cLine) (ha : DO X W a pa) (hb : DO X W b pb) : DT X W (.Compare a [.NotEq] [b] pos) (dTst (dOp fNe pa pb)) := dt_cmp (op_neD hu) opf_ne ha hb (nomark _)
theorem dt_isnot (ha : DO X W a pa) (hb : DO X W b pb) : DT X W (.Compare a [.IsNot] [b] pos) (dTst (dOp fIsNot pa pb)) := dt_cmp op_notN opf_isnot ha hb (nomark _)
theorem de_ch {op op' : CmpOp} {p p' : Int → Int → Bool} (ho : OpR X (compareOp op) (rI0 fun i j => .bl (p i j))) (ho' : OpR X (compareOp op') (rI0 fun i j => .bl (p' i j))) (ha : DO X W a pa) (hb : DO X W b pb) (hc : DO X W c pc)
    (hm : lastMarks [op, op'] [b, c] = false := by with_unfolding_all rfl) : DE X W (.Compare a [op, op'] [b, c] pos) (dChain (fCmp p) (fCmp p') pa pb pc) := de_chain ho opf_cmp ho' opf_cmp ha hb hc hm
def dAnd (ta tb : PTT) : PTT := fun w ρ M q => ta w ρ M fun c M1 => if c = true then tb w ρ M1 q else q false M1
def dOr (ta tb : PTT) : PTT := fun w ρ M q => ta w ρ M fun c M1 => if c = true then q true M1 else tb w ρ M1 q
def dNot (ta : PTT) : PTT := fun w ρ M q => ta w ρ M fun c M1 => q (!c) M1
abbrev DW (X : Cx) (W : WX) (e : Expr) (p : PTT) : Prop := L2.PW X e (realT X.K W p)
theorem DW.dt (h : DW X W e ta) : DT X W e ta := L2.PW.pt h
theorem dw_and1 (ha : DT X W a ta) : DW X W (.BoolOp .And [a] pos) ta := pw_and1 ha
theorem dw_or1 (ha : DT X W a ta) : DW X W (.BoolOp .Or [a] pos) ta := pw_or1 ha
theorem dw_and (ha : DT X W a ta) (hb : DW X W (.BoolOp .And (b :: rest) pos) tb) : DW X W (.BoolOp .And (a :: b :: rest) pos) (dAnd ta tb) := pw_imp (pw_and ha hb) fun σ H Q hE => hE.el fun g ρ M F O q w A p hw k =>
  (.mk A p hw (fun b H1 F1 O1 M1 A1 s1 q1 => by
    cases b with
    | true => exact (.mk (q := q) A1 q1 (hw.mono s1) (fun b H2 F2 O2 M2 A2 s2 q2 => k b H2 F2 O2 M2 A2 (s1.trans s2) q2))
    | false => exact k false H1 F1 O1 M1 A1 s1 q1))
theorem dw_or (ha : DT X W a ta) (hb : DW X W (.BoolOp .Or (b :: rest) pos) tb) : DW X W (.BoolOp .Or (a :: b :: rest) pos) (dOr ta tb) := pw_imp (pw_or ha hb) fun σ H Q hE => hE.el fun g ρ M F O q w A p hw k =>
  (.mk A p hw (fun b H1 F1 O1 M1 A1 s1 q1 => by
    cases b with
    | false => exact (.mk (q := q) A1 q1 (hw.mono s1) (fun b H2 F2 O2 M2 A2 s2 q2 => k b H2 F2 O2 M2 A2 (s1.trans s2) q2))
    | true => exact k true H1 F1 O1 M1 A1 s1 q1))
theorem dt_not (ha : DT X W a ta) : DT X W (.UnaryOp .Not a pos) (dNot ta) := pt_imp (pt_not ha) fun σ H Q hE => hE.el fun g ρ M F O q w A p hw k =>
  (.mk A p hw (fun b H1 F1 O1 M1 A1 s1 q1 => k (!b) H1 F1 O1 M1 A1 s1 q1))
def dAndV (pa pb : PTE) : PTE := fun w ρ M q => pa w ρ M fun d M1 => isB d fun c => if c = true then pb w ρ M1 q else q (.bl false) M1
def dNotV (pa : PTE) : PTE := fun w ρ M q => pa w ρ M fun d M1 => isB d fun c => q (.bl (!c)) M1
theorem de_bone {op : BoolOp} (h : DE X W a pa) : DE X W (.BoolOp op [a] pos) pa := pe_one h
theorem de_and (ha : DE X W a pa) (hb : DE X W (.BoolOp .And (b :: rest) pos) pb) : DE X W (.BoolOp .And (a :: b :: rest) pos) (dAndV pa pb) := pe_imp (pe_and ha hb) fun σ H Q hE => hE.el fun g ρ M F O q w A p hw k =>
  (.mk A p hw (fun v H1 F1 O1 M1 d A1 s1 r1 q1 => by
    obtain ⟨b, eb, q2⟩ := isB_run r1 q1
    refine ⟨b, eb, ?_⟩
    cases b with
    | true => exact (.mk (q := q) A1 q2 (hw.mono s1) (fun v H2 F2 O2 M2 d A2 s2 r2 q2 => k v H2 F2 O2 M2 d A2 (s1.trans s2) r2 q2))
    | false => exact k (.bl false) H1 F1 O1 M1 (.bl false) A1 s1 rfl q2))
theorem de_not (ha : DE X W a pa) : DE X W (.UnaryOp .Not a pos) (dNotV pa) := pe_imp (pe_not ha) fun σ H Q hE => hE.el fun g ρ M F O q w A p hw k =>
  (.mk A p hw (fun v H1 F1 O1 M1 d A1 s1 r1 q1 => by
    obtain ⟨b, eb, q2⟩ := isB_run r1 q1
    exact ⟨b, eb, k (.bl (!b)) H1 F1 O1 M1 (.bl (!b)) A1 s1 rfl q2⟩))
def dIf (tc : PTT) (pa pb : PTE) : PTE := fun w ρ M q => tc w ρ M fun c M1 => if c = true then pa w ρ M1 q else pb w ρ M1 q
theorem de_ife (hc : DT X W c tc) (ha : DE X W a pa) (hb : DE X W b pb) : DE X W (.IfExp c a b pos) (dIf tc pa pb) := pe_imp (pe_ifExp hc ha hb) fun σ H Q hE => hE.el fun g ρ M F O q w A p hw k =>
  (.mk A p hw (fun b H1 F1 O1 M1 A1 s1 q1 => by
    cases b with
    | true => exact (.mk (q := q) A1 q1 (hw.mono s1) (fun v H2 F2 O2 M2 d A2 s2 r2 q2 => k v H2 F2 O2 M2 d A2 (s1.trans s2) r2 q2))
    | false => exact (.mk (q := q) A1 q1 (hw.mono s1) (fun v H2 F2 O2 M2 d A2 s2 r2 q2 => k v H2 F2 O2 M2 d A2 (s1.trans s2) r2 q2))))
def dNil : PTA := fun _ _ M q => q [] M
def dCons (pa : PTE) (pl : PTA) : PTA := fun w ρ M q => pa w ρ M fun d M1 => pl w ρ M1 fun ds M2 => q (d :: ds) M2
theorem da_nil : DA X W [] dNil := pa_imp pa_nil fun σ H Q hE => hE.el fun g ρ M F O q w A p hw k => k [] H F O M [] A (Same.refl F) rfl p
theorem da_cons (ha : DE X W e pa) (hr : DA X W es pl) (hs : starEach (e :: es) X.env = (false, eval e X.env) :: starEach es X.env := by rfl) : DA X W (e :: es) (dCons pa pl) := pa_imp (pa_cons ha hr hs) fun σ H Q hE => hE.el fun g ρ M F O q w A p hw k =>
  (.mk A p hw (fun v H1 F1 O1 M1 d A1 s1 r1 q1 => (.mk A1 q1 (hw.mono s1) (fun vs H2 F2 O2 M2 ds A2 s2 r2 q2 => k (v :: vs) H2 F2 O2 M2 (d :: ds) A2 (s1.trans s2) ⟨v, vs, rfl, Rp.mono s2 _ _ r1, r2⟩ q2))))
def dTup (pl : PTA) : PTE := fun w ρ M q => pl w ρ M fun ds M1 => ds.length ≤ 1000000 ∧ q (.tup ds) M1
theorem de_tup {x1 : Nat} (h : DA X W es pl) : DE X W (.Tuple es x1 pos) (dTup pl) := pe_imp (pe_tup h) fun σ H Q hE => hE.el fun g ρ M F O q w A p hw k =>
  (.mk A p hw (fun vs H1 F1 O1 M1 ds A1 s1 r1 ⟨z, q1⟩ => ⟨by rw [← r1.len]; exact line_big z, fun p hp =>
    have s := same_new (o := .tup vs) (A1.f0 hp)
    k (.ref p) _ _ O1 M1 (.tup ds) (A1.lay hp) (s1.trans s) ⟨p, vs, rfl, .inl (.inl upd_same), RpL.mono s _ _ r1⟩ q1⟩))
def dLst (pl : PTA) : PTA := fun w ρ M q => pl w ρ M fun ds M1 => ds.length ≤ 1000000 ∧ q ds M1
theorem dl_lst (h : DA X W es pl) : DL X W (.List es pos) (dLst pl) := pe_imp (pe_lst h) fun σ H Q hE => hE.el fun g ρ M F O q w A p hw k =>
  (.mk A p hw (fun vs H1 F1 O1 M1 ds A1 s1 r1 ⟨z, q1⟩ => ⟨by rw [← r1.len]; exact line_big z, fun p hp =>
    k p vs _ F1 O1 M1 ds (A1.laid hp) s1 upd_same r1 (A1.f0 hp) (A1.o0 hp) (A1.g0 hp) q1⟩))
def atD (l : List D) (i : Int) (k : D → Prop) : Prop := ∃ d, atI l i = some d ∧ k d
def fIx : F2
  | .lst l, .int i, k => atD l i k
  | .tup l, .int i, k => atD l i k
  | _, _, _ => False
theorem RpL.atI {K : PySem.W.Frag} {F : Hp} {ds : List D} {xs : List V} {i : Int} {d : D} (r : RpL K F ds xs) (h : L2.atI ds i = some d) : ∃ x, L2.atI xs i = some x ∧ Rp K F d x := by
  unfold L2.atI at h ⊢
  rw [← r.len]
  cases e : ixN ds.length i with
  | none => rw [e] at h; cases h
  | some j =>
    rw [e] at h
    exact r.get h
theorem opf_ix {K : PySem.W.Frag} : OpF K (rIx K) fIx := by
  intro g σ H ρ M F O x y v u k Q A rx ry h c
  unfold fIx at h
  split at h
  · rename_i l i
    obtain ⟨d, h1, h2⟩ := h
    obtain ⟨p, xs, e1, hp, r1⟩ := rx.lst A
    obtain ⟨z, h3, r3⟩ := r1.atI h1
    exact .inl ⟨p, xs, i, z, e1, ry.int, .inl (.inl hp), h3, c d z H F O A (Same.refl F) r3 h2⟩
  · rename_i l i
    obtain ⟨d, h1, h2⟩ := h
    obtain ⟨p, xs, e1, hp, r1⟩ := rx.tup A
    obtain ⟨z, h3, r3⟩ := r1.atI h1
    exact .inr (.inl ⟨p, xs, i, z, e1, ry.int, hp, h3, c d z H F O A (Same.refl F) r3 h2⟩)
  · exact h.elim
theorem de_ix (ha : DO X W a pa) (hb : DO X W i pb) (hs : PlainIx i := by exact fun _ _ => rfl) : DE X W (.Subscript a i pos) (dOp fIx pa pb) := pe_imp (pe_ix ix_seq ha hb hs) fun σ H Q h => op_run opf_ix h
end
end Px
set_option Elab.async false
set_option linter.all false
set_option maxRecDepth 100000
namespace Px
open PySem PySem.Spec PyProof.Rows L2
abbrev F1 := D → (D → Prop) → Prop
abbrev G1 := D → (List D → Prop) → Prop
def BF1 (K : PySem.W.Frag) (r : List V → Hp → VK → Prop) (f : F1) : Prop := ∀ g σ H ρ M F O x v (k : D → Prop) (Q : VK), Ab K g σ H ρ M F O → Vw K σ ρ F x v → f x k →
  (∀ z w H' F' O', Ab K g σ H' ρ M F' O' → Same F F' → Rp K F' z w → k z → Q w H') → r [v] H Q
def BG1 (K : PySem.W.Frag) (r : List V → Hp → VK → Prop) (f : G1) : Prop := ∀ g σ H ρ M F O x v (k : List D → Prop) (Q : VK), Ab K g σ H ρ M F O → Vw K σ ρ F x v → f x k →
  (∀ ds p xs, H p = none → RpL K F ds xs → k ds → Q (.ref p) (upd H p (.lst xs))) → r [v] H Q
def BF2 (K : PySem.W.Frag) (r : List V → Hp → VK → Prop) (f : F2) : Prop := ∀ g σ H ρ M F O x y v u (k : D → Prop) (Q : VK), Ab K g σ H ρ M F O → Vw K σ ρ F x v → Vw K σ ρ F y u → f x y k →
  (∀ z w H' F' O', Ab K g σ H' ρ M F' O' → Same F F' → Rp K F' z w → k z → Q w H') → r [v, u] H Q
def dB1 (f : F1) (pa : PTE) : PTE := fun w ρ M q => pa w ρ M fun x M1 => f x fun z => q z M1
def dG1 (f : G1) (pa : PTE) : PTA := fun w ρ M q => pa w ρ M fun x M1 => f x fun z => q z M1
section
variable {X : Cx} {W : WX} {a b : Expr} {pa pb : PTE} {pos p : Pos} {x : Str} {idn T : String} {r : List V → Hp → VK → Prop}
theorem b1_run {f : F1} (hf : BF1 X.K r f) {σ : L2.St} {H : Hp} {Q : VK} (h : real X.K W (dB1 f pa) σ H Q) : tCB r (tCons (realO X.K W pa) tNil) σ H Q := by
  obtain ⟨g, ρ, M, F, O, q, w, A, p, hw, k⟩ := h
  exact (.mk A p hw (fun v H1 F1 O1 M1 d A1 s1 r1 q1 => hf g σ H1 ρ M1 F1 O1 d v _ Q A1 r1 q1 fun z w2 H2 F2 O2 A2 s2 r2 q2 => k w2 H2 F2 O2 M1 z A2 (s1.trans s2) r2 q2))
theorem g1_run {f : G1} (hf : BG1 X.K r f) {σ : L2.St} {H : Hp} {Q : VK} (h : realL X.K W (dG1 f pa) σ H Q) : tCB r (tCons (realO X.K W pa) tNil) σ H Q := by
  obtain ⟨g, ρ, M, F, O, q, w, A, p, hw, k⟩ := h
  exact (.mk A p hw (fun v H1 F1 O1 M1 d A1 s1 r1 q1 => hf g σ H1 ρ M1 F1 O1 d v _ Q A1 r1 q1 fun ds p xs hp rl q2 =>
    k p xs _ F1 O1 M1 ds (A1.laid hp) s1 upd_same rl (A1.f0 hp) (A1.o0 hp) (A1.g0 hp) q2))
theorem b2_run {f : F2} (hf : BF2 X.K r f) {σ : L2.St} {H : Hp} {Q : VK} (h : real X.K W (dOp f pa pb) σ H Q) : tCB r (tCons (realO X.K W pa) (tCons (realO X.K W pb) tNil)) σ H Q := by
  obtain ⟨g, ρ, M, F, O, q, w, A, p, hw, k⟩ := h
  exact (.mk A p hw (fun v H1 F1 O1 M1 d A1 s1 r1 q1 => (.mk A1 q1 (hw.mono s1) (fun u H2 F2 O2 M2 e A2 s2 r2 q2 =>
    hf g σ H2 ρ M2 F2 O2 d e v u _ Q A2 (r1.mono s2) r2 q2 fun z w3 H3 F3 O3 A3 s3 r3 q3 => k w3 H3 F3 O3 M2 z A3 ((s1.trans s2).trans s3) r3 q3))))
section
variable (hg : Gl X x) (hm : X.mg x = none) (hn : x ≠ "__name__" := by decide) (hdb : (x == ("__debug__" : Str)) = false := by decide) (he : starEach [a] X.env = (false, eval a X.env) :: starEach [] X.env := by rfl)
theorem de_b1 {f : F1} (hc : CallR X (.builtin idn) r) (hf : BF1 X.K r f) (hg : Gl X x) (hm : X.mg x = none) (hv : bootBuiltins x = some (.builtin idn)) (ha : DO X W a pa) (hn : x ≠ "__name__" := by decide) (hdb : (x == ("__debug__" : Str)) = false := by decide)
    (he : starEach [a] X.env = (false, eval a X.env) :: starEach [] X.env := by rfl) (hpl : (backTo pos (starEach [] X.env)).any (·.1) = false := by rfl) : DE X W (.Call (.Name x p) [a] [] pos) (dB1 f pa) :=
  pe_imp (pe_callB hc hg hm hv (pa_cons ha pa_nil he) hn hdb he hpl) fun σ H Q h => b1_run hf h
theorem de_t1 {f : F1} (hc : CallR X (.type T) r) (hf : BF1 X.K r f) (hg : Gl X x) (hm : X.mg x = none) (hv : bootBuiltins x = some (.type T)) (ha : DO X W a pa) (hn : x ≠ "__name__" := by decide) (hdb : (x == ("__debug__" : Str)) = false := by decide)
    (he : starEach [a] X.env = (false, eval a X.env) :: starEach [] X.env := by rfl) (hpl : (backTo pos (starEach [] X.env)).any (·.1) = false := by rfl) : DE X W (.Call (.Name x p) [a] [] pos) (dB1 f pa) :=
  pe_imp (pe_callTy hc hg hm hv (pa_cons ha pa_nil he) hn hdb he hpl) fun σ H Q h => b1_run hf h
theorem dl_t1 {f : G1} (hc : CallR X (.type T) r) (hf : BG1 X.K r f) (hg : Gl X x) (hm : X.mg x = none) (hv : bootBuiltins x = some (.type T)) (ha : DO X W a pa) (hn : x ≠ "__name__" := by decide) (hdb : (x == ("__debug__" : Str)) = false := by decide)
    (he : starEach [a] X.env = (false, eval a X.env) :: starEach [] X.env := by rfl) (hpl : (backTo pos (starEach [] X.env)).any (·.1) = false := by rfl) : DL X W (.Call (.Name x p) [a] [] pos) (dG1 f pa) :=
  pe_imp (pe_callTy hc hg hm hv (pa_cons ha pa_nil he) hn hdb he hpl) fun σ H Q h => g1_run hf h
theorem de_b2 {f : F2} (hc : CallR X (.builtin idn) r) (hf : BF2 X.K r f) (hg : Gl X x) (hm : X.mg x = none) (hv : bootBuiltins x = some (.builtin idn)) (ha : DO X W a pa) (hb : DO X W b pb) (hn : x ≠ "__name__" := by decide) (hdb : (x == ("__debug__" : Str)) = false := by decide)
    (he : starEach [a, b] X.env = (false, eval a X.env) :: starEach [b] X.env := by rfl) (he2 : starEach [b] X.env = (false, eval b X.env) :: starEach [] X.env := by rfl) (hpl : (backTo pos (starEach [b] X.env)).any (·.1) = false := by rfl) : DE X W (.Call (.Name x p) [a, b] [] pos) (dOp f pa pb) :=
  pe_imp (pe_callB hc hg hm hv (pa_cons ha (pa_cons hb pa_nil he2) he) hn hdb he hpl) fun σ H Q h => b2_run hf h
end
def fLen : F1
  | .lst l, k => k (.int l.length)
  | .tup l, k => k (.int l.length)
  | .scr l, k => k (.int l.length)
  | .str s, k => s.length ≤ 1000000 ∧ k (.int s.length)
  | _, _ => False
theorem bf_len : BF1 X.K (fun xs H Q => ∃ x n, xs = [x] ∧ LenV X.K x H n ∧ Q (.int n) H) fLen := by
  intro g σ H ρ M F O x v k Q A rx h c
  unfold fLen at h
  split at h
  · rename_i l
    obtain ⟨a, xs, e, hp, r⟩ := rx.lst A
    exact ⟨v, xs.length, rfl, by rw [e]; exact .inl ⟨xs, .inl (.inl hp), rfl⟩, c (.int xs.length) _ H F O A (Same.refl F) rfl (by rw [← r.len]; exact h)⟩
  · rename_i l
    obtain ⟨a, xs, e, hp, r⟩ := rx.tup A
    exact ⟨v, xs.length, rfl, by rw [e]; exact .inr ⟨xs, hp, rfl⟩, c (.int xs.length) _ H F O A (Same.refl F) rfl (by rw [← r.len]; exact h)⟩
  · rename_i l
    obtain ⟨a, e, hp⟩ := rx.scr A
    exact ⟨v, (l.map V.int).length, rfl, by rw [e]; exact .inl ⟨_, hp, rfl⟩, c (.int l.length) _ H F O A (Same.refl F) (by rw [List.length_map]; rfl) h⟩
  · rename_i s
    exact ⟨v, s.length, rfl, by rw [rx.str]; exact ⟨line_big h.1, rfl⟩, c (.int s.length) _ H F O A (Same.refl F) rfl h.2⟩
  · exact h.elim
theorem de_len (hg : Gl X "len") (hm : X.mg "len" = none) (ha : DO X W a pa) (he : starEach [a] X.env = (false, eval a X.env) :: starEach [] X.env := by rfl) (hpl : (backTo pos (starEach [] X.env)).any (·.1) = false := by rfl) :
    DE X W (.Call (.Name "len" p) [a] [] pos) (dB1 fLen pa) := de_b1 call_len bf_len hg hm PySem.boot_len ha (by decide) (by decide) he hpl
def intsOf : List D → Option (List Int)
  | [] => some []
  | .int i :: r => (intsOf r).map (i :: ·)
  | _ => none
theorem intsOf_eq : ∀ {l : List D} {ns : List Int}, intsOf l = some ns → l = ns.map .int
  | [], ns, h => by cases h; rfl
  | d :: r, ns, h => by
    cases d with
    | int i =>
      have h' : (intsOf r).map (i :: ·) = some ns := h
      cases e : intsOf r with
      | none => rw [e] at h'; cases h'
      | some ms =>
        rw [e] at h'
        cases h'
        rw [intsOf_eq e]; rfl
    | _ => cases h
theorem intsOf_map : ∀ ns : List Int, intsOf (ns.map .int) = some ns
  | [] => rfl
  | n :: ns => by
    show (intsOf (ns.map .int)).map (n :: ·) = _
    rw [intsOf_map ns]; rfl
def boolsOf : List D → Option (List Bool)
  | [] => some []
  | .bl i :: r => (boolsOf r).map (i :: ·)
  | _ => none
theorem boolsOf_eq : ∀ {l : List D} {ns : List Bool}, boolsOf l = some ns → l = ns.map .bl
  | [], ns, h => by cases h; rfl
  | d :: r, ns, h => by
    cases d with
    | bl i =>
      have h' : (boolsOf r).map (i :: ·) = some ns := h
      cases e : boolsOf r with
      | none => rw [e] at h'; cases h'
      | some ms =>
        rw [e] at h'
        cases h'
        rw [boolsOf_eq e]; rfl
    | _ => cases h
theorem boolsOf_map : ∀ ns : List Bool, boolsOf (ns.map .bl) = some ns
  | [] => rfl
  | n :: ns => by
    show (boolsOf (ns.map .bl)).map (n :: ·) = _
    rw [boolsOf_map ns]; rfl
def minL : Int → List Int → Int
  | n, [] => n
  | n, m :: r => minL (if m < n then m else n) r
def maxL : Int → List Int → Int
  | n, [] => n
  | n, m :: r => maxL (if m > n then m else n) r
theorem minL_le : ∀ (r : List Int) (n : Int), minL n r ≤ n ∧ ∀ m ∈ r, minL n r ≤ m
  | [], n => ⟨Int.le_refl _, fun _ h => nomatch h⟩
  | m :: r, n => by
    obtain ⟨h1, h2⟩ := minL_le r (if m < n then m else n)
    have hd : minL n (m :: r) = minL (if m < n then m else n) r := rfl
    rw [hd]
    have hi : (if m < n then m else n) ≤ n ∧ (if m < n then m else n) ≤ m := by split <;> omega
    refine ⟨by omega, fun x hx => ?_⟩
    rcases List.mem_cons.mp hx with e | hx
    · rw [e]; omega
    · exact h2 x hx
theorem minL_mem : ∀ (r : List Int) (n : Int), minL n r ∈ n :: r
  | [], n => List.mem_cons_self
  | m :: r, n => by
    have h := minL_mem r (if m < n then m else n)
    have hd : minL n (m :: r) = minL (if m < n then m else n) r := rfl
    rw [hd]
    rcases List.mem_cons.mp h with e | e
    · rw [e]; split <;> simp
    · exact List.mem_cons_of_mem _ (List.mem_cons_of_mem _ e)
theorem maxL_le : ∀ (r : List Int) (n : Int), n ≤ maxL n r ∧ ∀ m ∈ r, m ≤ maxL n r
  | [], n => ⟨Int.le_refl _, fun _ h => nomatch h⟩
  | m :: r, n => by
    obtain ⟨h1, h2⟩ := maxL_le r (if m > n then m else n)
    have hd : maxL n (m :: r) = maxL (if m > n then m else n) r := rfl
    rw [hd]
    have hi : (if m > n then m else n) ≥ n ∧ (if m > n then m else n) ≥ m := by split <;> omega
    refine ⟨by omega, fun x hx => ?_⟩
    rcases List.mem_cons.mp hx with e | hx
    · rw [e]; omega
    · exact h2 x hx
theorem maxL_mem : ∀ (r : List Int) (n : Int), maxL n r ∈ n :: r
  | [], n => List.mem_cons_self
  | m :: r, n => by
    have h := maxL_mem r (if m > n then m else n)
    have hd : maxL n (m :: r) = maxL (if m > n then m else n) r := rfl
    rw [hd]
    rcases List.mem_cons.mp h with e | e
    · rw [e]; split <;> simp
    · exact List.mem_cons_of_mem _ (List.mem_cons_of_mem _ e)
def fMin : F1
  | .lst l, k => match intsOf l with | some (n :: r) => k (.int (minL n r)) | _ => False
  | _, _ => False
def fMax : F1
  | .lst l, k => match intsOf l with | some (n :: r) => k (.int (maxL n r)) | _ => False
  | _, _ => False
theorem bf_min : BF1 X.K (rMin X.K) fMin := by
  intro g σ H ρ M F O x v k Q A rx h c
  unfold fMin at h
  split at h
  · rename_i l
    split at h
    · rename_i n r e
      obtain ⟨a, xs, e1, hp, rl⟩ := rx.lst A
      rw [intsOf_eq e] at rl
      have ex := rl.ints
      subst ex
      refine ⟨a, n :: r, by rw [e1], .inl (.inl hp), Nat.succ_pos _, fun m hm hle => ?_⟩
      obtain ⟨h1, h2⟩ := minL_le r n
      have h3 := minL_mem r n
      have em : m = minL n r := by
        have q1 := hle _ h3
        rcases List.mem_cons.mp hm with z | z
        · omega
        · have q2 := h2 m z; omega
      rw [em]
      exact c (.int (minL n r)) _ H F O A (Same.refl F) rfl h
    · exact h.elim
  · exact h.elim
theorem bf_max : BF1 X.K (rMax X.K) fMax := by
  intro g σ H ρ M F O x v k Q A rx h c
  unfold fMax at h
  split at h
  · rename_i l
    split at h
    · rename_i n r e
      obtain ⟨a, xs, e1, hp, rl⟩ := rx.lst A
      rw [intsOf_eq e] at rl
      have ex := rl.ints
      subst ex
      refine ⟨a, n :: r, by rw [e1], .inl (.inl hp), Nat.succ_pos _, fun m hm hle => ?_⟩
      obtain ⟨h1, h2⟩ := maxL_le r n
      have h3 := maxL_mem r n
      have em : m = maxL n r := by
        have q1 := hle _ h3
        rcases List.mem_cons.mp hm with z | z
        · omega
        · have q2 := h2 m z; omega
      rw [em]
      exact c (.int (maxL n r)) _ H F O A (Same.refl F) rfl h
    · exact h.elim
  · exact h.elim
def fAll : F1
  | .lst l, k => match boolsOf l with | some bs => k (.bl (bs.all id)) | _ => False
  | _, _ => False
def fAny : F1
  | .lst l, k => match boolsOf l with | some bs => k (.bl (bs.any id)) | _ => False
  | _, _ => False
theorem bf_all : BF1 X.K (rAll X.K) fAll := by
  intro g σ H ρ M F O x v k Q A rx h c
  unfold fAll at h
  split at h
  · split at h
    · rename_i bs e
      obtain ⟨a, xs, e1, hp, rl⟩ := rx.lst A
      rw [boolsOf_eq e] at rl
      have ex := rl.bls
      subst ex
      exact ⟨a, bs, by rw [e1], .inl (.inl hp), c (.bl (bs.all id)) _ H F O A (Same.refl F) rfl h⟩
    · exact h.elim
  · exact h.elim
theorem bf_any : BF1 X.K (rAny X.K) fAny := by
  intro g σ H ρ M F O x v k Q A rx h c
  unfold fAny at h
  split at h
  · split at h
    · rename_i bs e
      obtain ⟨a, xs, e1, hp, rl⟩ := rx.lst A
      rw [boolsOf_eq e] at rl
      have ex := rl.bls
      subst ex
      exact ⟨a, bs, by rw [e1], .inl (.inl hp), c (.bl (bs.any id)) _ H F O A (Same.refl F) rfl h⟩
    · exact h.elim
  · exact h.elim
def fAbs : F1
  | .int i, k => k (.int (if i < 0 then -i else i))
  | _, _ => False
theorem bf_abs : BF1 X.K (fun xs H Q => ∃ i, xs = [.int i] ∧ Q (.int (if i < 0 then -i else i)) H) fAbs := by
  intro g σ H ρ M F O x v k Q A rx h c
  unfold fAbs at h
  split at h
  · rename_i i
    exact ⟨i, by rw [rx.int], c (.int (if i < 0 then -i else i)) _ H F O A (Same.refl F) rfl h⟩
  · exact h.elim
def fMin2 : F2
  | .int i, .int j, k => k (.int (if j < i then j else i))
  | _, _, _ => False
def fMax2 : F2
  | .int i, .int j, k => k (.int (if j > i then j else i))
  | _, _, _ => False
theorem bf_min2 : BF2 X.K (fun xs H Q => ∃ i j, xs = [.int i, .int j] ∧ Q (.int (if j < i then j else i)) H) fMin2 := by
  intro g σ H ρ M F O x y v u k Q A rx ry h c
  unfold fMin2 at h
  split at h
  · rename_i i j
    exact ⟨i, j, by rw [rx.int, ry.int], c (.int (if j < i then j else i)) _ H F O A (Same.refl F) rfl h⟩
  · exact h.elim
theorem bf_max2 : BF2 X.K (fun xs H Q => ∃ i j, xs = [.int i, .int j] ∧ Q (.int (if j > i then j else i)) H) fMax2 := by
  intro g σ H ρ M F O x y v u k Q A rx ry h c
  unfold fMax2 at h
  split at h
  · rename_i i j
    exact ⟨i, j, by rw [rx.int, ry.int], c (.int (if j > i then j else i)) _ H F O A (Same.refl F) rfl h⟩
  · exact h.elim
section
variable (he : starEach [a] X.env = (false, eval a X.env) :: starEach [] X.env)
theorem de_min (hc : X.calm = true) (hg : Gl X "min") (hm : X.mg "min" = none) (ha : DO X W a pa) (he : starEach [a] X.env = (false, eval a X.env) :: starEach [] X.env := by rfl) (hpl : (backTo pos (starEach [] X.env)).any (·.1) = false := by rfl) :
    DE X W (.Call (.Name "min" p) [a] [] pos) (dB1 fMin pa) := de_b1 (cr_min hc) bf_min hg hm (by decide +kernel) ha (by decide) (by decide) he hpl
theorem de_max (hc : X.calm = true) (hg : Gl X "max") (hm : X.mg "max" = none) (ha : DO X W a pa) (he : starEach [a] X.env = (false, eval a X.env) :: starEach [] X.env := by rfl) (hpl : (backTo pos (starEach [] X.env)).any (·.1) = false := by rfl) :
    DE X W (.Call (.Name "max" p) [a] [] pos) (dB1 fMax pa) := de_b1 (cr_max hc) bf_max hg hm (by decide +kernel) ha (by decide) (by decide) he hpl
theorem de_all (hc : X.calm = true) (hg : Gl X "all") (hm : X.mg "all" = none) (ha : DO X W a pa) (he : starEach [a] X.env = (false, eval a X.env) :: starEach [] X.env := by rfl) (hpl : (backTo pos (starEach [] X.env)).any (·.1) = false := by rfl) :
    DE X W (.Call (.Name "all" p) [a] [] pos) (dB1 fAll pa) := de_b1 (cr_all hc) bf_all hg hm (by decide +kernel) ha (by decide) (by decide) he hpl
theorem de_any (hc : X.calm = true) (hg : Gl X "any") (hm : X.mg "any" = none) (ha : DO X W a pa) (he : starEach [a] X.env = (false, eval a X.env) :: starEach [] X.env := by rfl) (hpl : (backTo pos (starEach [] X.env)).any (·.1) = false := by rfl) :
    DE X W (.Call (.Name "any" p) [a] [] pos) (dB1 fAny pa) := de_b1 (cr_any hc) bf_any hg hm (by decide +kernel) ha (by decide) (by decide) he hpl
theorem de_abs (hg : Gl X "abs") (hm : X.mg "abs" = none) (ha : DO X W a pa) (he : starEach [a] X.env = (false, eval a X.env) :: starEach [] X.env := by rfl) (hpl : (backTo pos (starEach [] X.env)).any (·.1) = false := by rfl) :
    DE X W (.Call (.Name "abs" p) [a] [] pos) (dB1 fAbs pa) := de_b1 call_abs bf_abs hg hm (by decide +kernel) ha (by decide) (by decide) he hpl
theorem de_min2 (hc : X.calm = true) (hg : Gl X "min") (hm : X.mg "min" = none) (ha : DO X W a pa) (hb : DO X W b pb) (he : starEach [a, b] X.env = (false, eval a X.env) :: starEach [b] X.env := by rfl) (he2 : starEach [b] X.env = (false, eval b X.env) :: starEach [] X.env := by rfl)
    (hpl : (backTo pos (starEach [b] X.env)).any (·.1) = false := by rfl) : DE X W (.Call (.Name "min" p) [a, b] [] pos) (dOp fMin2 pa pb) := de_b2 (call_min2 hc) bf_min2 hg hm (by decide +kernel) ha hb (by decide) (by decide) he he2 hpl
theorem de_max2 (hc : X.calm = true) (hg : Gl X "max") (hm : X.mg "max" = none) (ha : DO X W a pa) (hb : DO X W b pb) (he : starEach [a, b] X.env = (false, eval a X.env) :: starEach [b] X.env := by rfl) (he2 : starEach [b] X.env = (false, eval b X.env) :: starEach [] X.env := by rfl)
    (hpl : (backTo pos (starEach [b] X.env)).any (·.1) = false := by rfl) : DE X W (.Call (.Name "max" p) [a, b] [] pos) (dOp fMax2 pa pb) := de_b2 (call_max2 hc) bf_max2 hg hm (by decide +kernel) ha hb (by decide) (by decide) he he2 hpl
end
def tyD : D → Option String
  | .non => some "NoneType"
  | .bl _ => some "bool"
  | .int _ => some "int"
  | .str _ => some "str"
  | .tup _ => some "tuple"
  | .lst _ => some "list"
  | .dic _ _ => some "dict"
  | .scr _ => some "list"
  | _ => none
def subTy (a t : String) : Bool := a == t || (a == "bool" && t == "int")
def tys : List String := ["NoneType", "bool", "int", "str", "tuple", "list", "dict"]
theorem kit_tys : ∀ a ∈ tys, ∀ t ∈ tys, kitB a t = some (subTy a t) := by decide +kernel
theorem tyD_mem {d : D} {a : String} (h : tyD d = some a) : a ∈ tys := by
  cases d <;> first | (cases h; decide) | cases h
theorem vw_ty {K : PySem.W.Frag} {g : Gh} {σ : L2.St} {H : Hp} {ρ : Rho} {M : Mm} {F : Hp} {O : Own} {d : D} {v : V} {t : String} (A : Ab K g σ H ρ M F O) (r : Vw K σ ρ F d v) (h : tyD d = some t) : TyX K H v (.type t) := by
  cases d with
  | non => cases h; rw [r.non]; exact .base .non
  | bl b => cases h; rw [r.bl]; exact .base (.bl b)
  | int i => cases h; rw [r.int]; exact .base (.int i)
  | str s => cases h; rw [r.str]; exact .base (.str s)
  | lst l =>
    cases h
    obtain ⟨a, xs, e, hp, _⟩ := r.lst A
    rw [e]; exact .base (.lst hp)
  | tup l =>
    cases h
    obtain ⟨a, xs, e, hp, _⟩ := r.tup A
    rw [e]
    rcases hp with (hp | ⟨o, hp⟩) | ⟨o, its, n, hk, hc, _⟩
    · exact .base (.tup hp)
    · exact .fTuple hp
    · exact .kTuple hk hc
  | scr l =>
    cases h
    obtain ⟨a, e, hp⟩ := r.scr A
    rw [e]
    rcases hp with (hp | ⟨o, hp⟩) | ⟨o, its, n, hk, hc, _⟩
    · exact .base (.lst hp)
    · exact .base (.frz hp)
    · exact .kList hk hc
  | dic ks l =>
    cases h
    rcases r with ⟨a, kvs, e, hp, _⟩ | ⟨_, _, _, _, _, _, z⟩
    · rw [e]
      rcases same_rd A.sub hp with hp | ⟨o, hp⟩
      · exact .base (.dK hp)
      · exact .fDict hp
    · cases z
  | obj _ _ _ => cases h
  | raw _ => cases h
  | clo _ _ _ _ _ => cases h
  | fnc _ _ _ _ => cases h
  | exv _ _ _ _ _ => cases h
def fIsi (t : String) : F1 := fun d k => match tyD d with | some a => k (.bl (subTy a t)) | none => False
theorem de_isi (T : String) (hT : T ∈ tys) {x2 : Str} {p2 : Pos} (hg : Gl X "isinstance") (hm : X.mg "isinstance" = none) (hg2 : Gl X x2) (hm2 : X.mg x2 = none) (hv2 : bootBuiltins x2 = some (.type T)) (ha : DO X W a pa)
    (hn2 : x2 ≠ "__name__" := by decide) (hd2 : (x2 == ("__debug__" : Str)) = false := by decide)
    (he : starEach [a, .Name x2 p2] X.env = (false, eval a X.env) :: starEach [.Name x2 p2] X.env := by rfl) (he2 : starEach [.Name x2 p2] X.env = (false, eval (.Name x2 p2) X.env) :: starEach [] X.env := by rfl)
    (hpl : (backTo pos (starEach [.Name x2 p2] X.env)).any (·.1) = false := by rfl) : DE X W (.Call (.Name "isinstance" p) [a, .Name x2 p2] [] pos) (dB1 (fIsi T) pa) :=
  pe_imp (pe_callB call_isi hg hm (by decide +kernel) (pa_cons ha (pa_cons (pe_bltn (v := .ty T) hg2 hm2 hv2 rfl hn2 hd2) pa_nil he2) he) (by decide) (by decide) he hpl) fun σ H Q hE => hE.el fun g ρ M F O q w A p hw k =>
  ⟨g, ρ, M, F, O, _, w, A, p, hw, fun v H1 F1 O1 M1 d A1 s1 r1 q1 => by
    cases e : tyD d with
    | none => simp only [fIsi, e] at q1
    | some t =>
      simp only [fIsi, e] at q1
      exact ⟨v, .ty T, _, _, subTy t T, rfl, .ty T, vw_ty A1 r1 e, kit_ty (kit_tys t (tyD_mem e) T hT), k (.bl (subTy t T)) H1 F1 O1 M1 (.bl (subTy t T)) A1 s1 rfl q1⟩⟩
end
end Px
set_option Elab.async false
set_option linter.all false
set_option maxRecDepth 100000
namespace Px
open PySem PySem.Spec PyProof.Rows L2
abbrev PSp := List D → Mm → PQ → PX → Prop
def Aft (K : PySem.W.Frag) (H : Hp) (F : Hp) (O : Own) (H' : Hp) (M' : Mm) (F' : Hp) (O' : Own) : Prop :=
  Wd K ⟨H, F, fun a => ∃ m, O a = some (.obj m), []⟩ H' M' F' O' ∧ ∀ a o, O' a = some o → ∃ m, o = .obj m
def toSp (K : PySem.W.Frag) (n : Nat) (sp : PSp) : Sp := fun vs H Q E => ∃ g F M O ds q e, vs.length = n ∧ Wd K g H M F O ∧ RpL K F ds vs ∧ sp ds M q e ∧
  (∀ v H' F' O' M' d, Aft K H F O H' M' F' O' → Rp K F' d v → q d M' → Q v H') ∧
  (∀ cls dd H' F' O' M' fs, Aft K H F O H' M' F' O' → ExOk K F' dd fs → e cls fs M' → E cls dd H')
section
variable {K : PySem.W.Frag} {g : Gh} {σ : L2.St} {H H' : Hp} {ρ : Rho} {M M' : Mm} {F F' : Hp} {O O' : Own}
open Classical in
theorem Ab.after2 (A : Ab K g σ H ρ M F O) (B : Aft K H F O H' M' F' O') : ∃ O2, Ab K g σ H' ρ M' F' O2 ∧ Same F F' ∧ ∀ a, O a = none → O2 a = O' a := by
  obtain ⟨B, hb⟩ := B
  have s : Same F F' := B.ext0
  have nobj : ∀ {a o}, O a = some o → (∀ m, o ≠ .obj m) → ¬ ∃ m, O a = some (.obj m) := fun e n ⟨m, z⟩ => by rw [e] at z; exact n m (Option.some.inj z)
  have keep : ∀ {a o u}, O a = some o → (∀ m, o ≠ .obj m) → H a = some u → H' a = some u := fun {a o u} e n h => B.frm a u h (nobj e n)
  have apart : ∀ {a o o'}, O a = some o → (∀ m, o ≠ .obj m) → O' a = some o' → False := fun {a o o'} e n e' => by
    obtain ⟨⟨x, hx⟩, _⟩ := A.liv a o e
    rcases (B.liv a o' e').2.2 with z | z
    · exact nobj e n z
    · rw [show H a = none from z] at hx; cases hx
  refine ⟨fun a => if (∃ o, O a = some o ∧ ∀ m, o ≠ .obj m) then O a else O' a, ?_, s, fun a e => if_neg (by
    rintro ⟨u, e1, _⟩
    rw [e] at e1; cases e1)⟩
  have priv : ∀ {a o}, O a = some o → (∀ m, o ≠ .obj m) → (if (∃ o, O a = some o ∧ ∀ m, o ≠ .obj m) then O a else O' a) = some o := fun e n => by rw [if_pos ⟨_, e, n⟩]; exact e
  have publ : ∀ {a o}, O' a = some o → (if (∃ o, O a = some o ∧ ∀ m, o ≠ .obj m) then O a else O' a) = some o := fun {a o} e => by
    rw [if_neg]
    · exact e
    · rintro ⟨u, e1, n⟩
      exact apart e1 n e
  exact { sub := B.sub, ext0 := A.ext0.trans s
          new := fun a o e => by
            rcases B.new a o e with z | z
            · exact A.new a o z
            · exact .inr (A.g0 z)
          frm := fun a o e n => by
            refine B.frm a o (A.frm a o e n) ?_
            rintro ⟨m, z⟩
            rcases (A.liv a _ z).2.2 with y | y
            · exact n y
            · rw [e] at y; cases y
          thr := fun a o e => by
            obtain ⟨o1, z⟩ := A.thr a o e
            exact B.thr a o1 z
          liv := fun a o e => by
            by_cases c : ∃ o, O a = some o ∧ ∀ m, o ≠ .obj m
            · rw [if_pos c] at e
              obtain ⟨u, e1, n⟩ := c
              rw [e] at e1; cases e1
              obtain ⟨⟨x, hx⟩, hF, h0⟩ := A.liv a o e
              refine ⟨⟨x, keep e n hx⟩, ?_, h0⟩
              cases z : F' a with
              | none => rfl
              | some y =>
                rcases B.new a y z with w | w
                · rw [show F a = some y from w] at hF; cases hF
                · rw [show H a = none from w] at hx; cases hx
            · rw [if_neg c] at e
              obtain ⟨h1, h2, h3⟩ := B.liv a o e
              refine ⟨h1, h2, ?_⟩
              rcases h3 with ⟨m, z⟩ | z
              · exact (A.liv a _ z).2.2
              · exact .inr (A.g0 z)
          slo := fun a o e n => by
            by_cases c : ∃ o, O a = some o ∧ ∀ m, o ≠ .obj m
            · rw [if_pos c] at e
              exact A.slo a o e n
            · rw [if_neg c] at e
              obtain ⟨m, z⟩ := hb a o e
              exact absurd z (n m)
          tm := fun p l e => by
            obtain ⟨xs, e1, e2, e3⟩ := A.tm p l e
            exact ⟨xs, keep e3 (fun _ z => by cases z) e1, RpL.mono s _ _ e2, priv e3 (fun _ z => by cases z)⟩
          mu := fun a mo e => (B.mu a mo e).mono (Same.refl F') fun q u e1 e2 => ⟨e1, publ e2⟩
          len := A.len
          sl := fun i sv e => by
            obtain ⟨v, e1, r⟩ := A.sl i sv e
            exact ⟨v, e1, r.mono s fun p xs e2 e3 => ⟨keep e3 (fun _ z => by cases z) e2, priv e3 (fun _ z => by cases z)⟩⟩ }
theorem Ab.after (A : Ab K g σ H ρ M F O) (B : Aft K H F O H' M' F' O') : ∃ O2, Ab K g σ H' ρ M' F' O2 ∧ Same F F' :=
  let ⟨O2, h1, h2, _⟩ := A.after2 B
  ⟨O2, h1, h2⟩
def startR (n : Nat) (ds : List D) : Rho := ds.map (fun d => some (.val d)) ++ List.replicate (n - ds.length) none
theorem gt_app : ∀ (ds : List D) (i n : Nat) {sv : Sv}, gt (ds.map (fun d => some (Sv.val d)) ++ List.replicate n none) i = some sv → ∃ d, sv = .val d ∧ ds[i]? = some d
  | [], i, n, sv, h => by
    have key : ∀ (n i : Nat), gt (List.replicate n none) i = none := by
      intro n
      induction n with
      | zero => intro i; rfl
      | succ n ih => intro i; cases i with | zero => rfl | succ i => exact ih i
    have h' : gt (List.replicate n none) i = some sv := h
    rw [key] at h'; cases h'
  | d :: ds, 0, n, sv, h => ⟨d, (Option.some.inj h).symm, rfl⟩
  | d :: ds, i + 1, n, sv, h => by
    obtain ⟨e, h1, h2⟩ := gt_app ds i n (sv := sv) h
    exact ⟨e, h1, by simpa using h2⟩
def objs (O : Own) : Own := fun a => match O a with | some (.obj m) => some (.obj m) | _ => none
theorem objs_of {O : Own} {a : Addr} {o : Ow} (h : objs O a = some o) : ∃ m, o = .obj m ∧ O a = some (.obj m) := by
  unfold objs at h
  split at h
  · rename_i m e
    cases h
    exact ⟨m, rfl, e⟩
  · cases h
theorem objs_to {O : Own} {a m : Addr} (h : O a = some (.obj m)) : objs O a = some (.obj m) := by
  unfold objs
  rw [h]
theorem Wd.enter {ds : List D} {vs : List V} {N : List Str} (A : Wd K g H M F O) (r : RpL K F ds vs) : Ab K ⟨H, F, fun a => ∃ m, O a = some (.obj m), []⟩ (L2.start N vs) H (startR N.length ds) M F (objs O) :=
  { sub := A.sub, ext0 := Same.refl F, new := fun a o e => .inl e, frm := fun a o e _ => e, thr := fun a o e => ⟨o, e⟩
    liv := fun a o e => by
      obtain ⟨m, rfl, e1⟩ := objs_of e
      obtain ⟨h1, h2, _⟩ := A.liv a _ e1
      exact ⟨h1, h2, .inl ⟨m, e1⟩⟩
    slo := fun a o e n => by
      obtain ⟨m, rfl, e1⟩ := objs_of e
      exact absurd rfl (n m)
    tm := fun p l e => absurd e (by simp)
    mu := fun a mo e => (A.mu a mo e).mono (Same.refl F) fun q u e1 e2 => ⟨e1, objs_to e2⟩
    len := by
      unfold startR L2.start
      rw [List.length_append, List.length_append, List.length_map, List.length_map, List.length_replicate, List.length_replicate, r.len]
    sl := fun i sv e => by
      obtain ⟨d, rfl, e1⟩ := gt_app ds i _ e
      obtain ⟨v, e2, r2⟩ := r.get e1
      refine ⟨v, ?_, r2⟩
      unfold L2.start
      have hi : i < vs.length := (List.getElem?_eq_some_iff.mp e2).1
      rw [List.getElem?_append_left (by simpa using hi), List.getElem?_map, e2]
      rfl }
def MLe (M' M : Mm) : Prop := ∀ a mo, M' a = some mo → M a = some mo
theorem MLe.refl (M : Mm) : MLe M M := fun _ _ h => h
theorem Ab.leave {H0 : Hp} {F0 : Hp} {w : Addr → Prop} (A : Ab K ⟨H0, F0, w, []⟩ σ H ρ M F O) (h : MLe M' M) : Wd K ⟨H0, F0, w, []⟩ H M' F (objs O) ∧ ∀ a o, objs O a = some o → ∃ m, o = .obj m := by
  refine ⟨?_, fun a o e => let ⟨m, e1, _⟩ := objs_of e; ⟨m, e1⟩⟩
  exact { sub := A.sub, ext0 := A.ext0, new := A.new, frm := A.frm, thr := A.thr
          liv := fun a o e => by
            obtain ⟨m, rfl, e1⟩ := objs_of e
            exact A.liv a _ e1
          slo := fun a o e n => by
            obtain ⟨m, rfl, e1⟩ := objs_of e
            exact absurd rfl (n m)
          tm := fun p l e => absurd e (by simp)
          mu := fun a mo e => (A.mu a mo (h a mo e)).mono (Same.refl F) fun q u e1 e2 => ⟨e1, objs_to e2⟩ }
end
section
variable (P : Program) (w : World) (K : PySem.W.Frag) (mg : Str → Option Value) (base : Heap)
structure FnG (k : Nat) (f : Addr) (fd : FuncData) (ps : List Str) (sp : Sp) : Prop where
  len : ∀ vs H Q E, sp vs H Q E → vs.length = ps.length
  run : ∀ (A : Around) (outer : List Env) (s : Shared) (H : Hp) (args : Args) (us : List Value) (vs : List V) (Q : VK) (E : XK), Room k A → A.guards = some [] → Env0 P w K mg base A outer s H →
    BindsTo s fd args (ps.zip us) → Vals vs us → sp vs H Q E → codeAny (model P w) A (.call (.ref f) args) (CR (L2.CX P w) outer P w H s Q E) s
end
section
variable {P : Program} {w : World} {K : PySem.W.Frag} {mg : Str → Option Value} {base : Heap} {j k : Nat} {f : Addr} {fd : FuncData} {ps N : List Str}
theorem FnG.mono {sp : Sp} (Fg : FnG P w K mg base j f fd ps sp) (h : j ≤ k) : FnG P w K mg base k f fd ps sp := ⟨Fg.len, fun A o s H a us vs Q E r => Fg.run A o s H a us vs Q E (r.mono h)⟩
theorem toSp_len {n : Nat} {sp : PSp} {vs : List V} {H : Hp} {Q : VK} {E : XK} (h : toSp K n sp vs H Q E) : vs.length = n := by
  obtain ⟨_, _, _, _, _, _, _, e, _⟩ := h
  exact e
abbrev WE (E : XK) : WX := fun cls d _ H => E cls d H
theorem Fun.gok {x qual : Str} {stm : Stmt} {sp : Sp} (Fn : L2.Fun K x qual stm f fd) (S : FnScope N ps (defScope stm)) (hn : ∀ vs H Q E, sp vs H Q E → vs.length = ps.length)
    (hbody : ∀ (cdv : Value) (A : Around) (outer : List Env) (s : Shared) (H : Hp) (vs : List V) (Q : VK) (E : XK), Room k (A.deeper (envOfC qual (defScope stm) s.heap.objs.size f cdv)) → A.guards = some [] → sp vs H Q E →
      ∃ t : TS, PSs (cxOf (L2.CX P w) P w K mg base N qual (defScope stm) f cdv A outer s H E) (defBody stm) t ∧ t { nx := fun _ H' => Q .non H', rt := Q } (L2.start N vs) H) :
    FnG P w K mg base (k + 1) f fd ps sp := by
  obtain ⟨oc, od, kV, doc, pm, an, cdv, ct, osl, rfl, lk, hcd⟩ := Fn.ex
  refine ⟨hn, fun A outer s H args us vs Q E hr hG e0 hb r hsp => ?_⟩
  have hl : vs.length = ps.length := hn _ _ _ _ hsp
  have KX : K.In s.heap := e0.mod.kin.keeps fun b o e => (e0.bs b o e).1
  have lim : s.heap.NoLimit := e0.mod.nolimit.keeps fun b o e => (e0.bs b o e).1
  have kinds : ∀ y ∈ ps.zip us, (defScope stm).names.lookup y.1 = some .local ∨ ((defScope stm).names.lookup y.1 = some .cell ∧ ((cellsFrom (s.heap.objs.size + 1) (defScope stm).names []).lookup y.1).isSome = true) := by
    rintro ⟨n, v⟩ hy
    rcases S.par n (List.of_mem_zip hy).1 with q | q
    · exact .inl q
    · exact .inr ⟨q, PySem.W.cellsFrom_some _ _ _ (.inl q)⟩
  refine codeAny_call_function hr.depth (KX _ _ lk) rfl S.co S.gen rfl (PySem.W.codeRec_of KX hcd) (hb _ _ _ _ ?_)
  refine wpAny_newFunctionEnv_cells S.kind kinds fun env he s1 x => ?_
  subst he
  refine ⟨lim.keeps x.toInCall.keep, codeAny_func ?_⟩
  obtain ⟨t, ht, hq⟩ := hbody cdv A outer s H vs Q E (hr.deeper _) hG hsp
  have I := inv_start (CX := L2.CX P w) (E := E) (qual := qual) (f := f) (cd := cdv) (A := A) S hr.hd e0 hl r x
  refine wpAny_mono (ht.run [] s1 (L2.start N vs) H { nx := fun _ H' => Q .non H', rt := Q } I hq) (fun fl s' hs => ?_) fun e s' hs => hs
  cases fl with
  | ret u =>
    obtain ⟨v, σ', H', J, rv, q⟩ := hs
    exact ⟨v, H', J.os, J.bare, J.base, J.hok, rv, q⟩
  | next =>
    obtain ⟨σ', H', J, q⟩ := hs
    exact ⟨.non, H', J.os, J.bare, J.base, J.hok, rfl, q⟩
  | brk =>
    obtain ⟨_, _, _, q⟩ := hs
    exact q.elim
  | cont =>
    obtain ⟨_, _, _, q⟩ := hs
    exact q.elim
def Shows (sp : PSp) (N : Nat) (p : PTS) : Prop := ∀ ds M q e, sp ds M q e →
  p (fun cls fs _ M' => ∃ M2, MLe M2 M' ∧ e cls fs M2) { nx := fun _ M' => ∃ M2, MLe M2 M' ∧ q .non M2, rt := fun d M' => ∃ M2, MLe M2 M' ∧ q d M2 } (startR N ds) M
theorem Fun.pok {x qual : Str} {stm : Stmt} {n : Nat} {sp : PSp} {p : PTS} (Fn : L2.Fun K x qual stm f fd) (S : FnScope N ps (defScope stm)) (hn : ps.length = n) (hs : Shows sp N.length p)
    (hbody : ∀ (cdv : Value) (A : Around) (outer : List Env) (s : Shared) (H : Hp) (E : XK), Room k (A.deeper (envOfC qual (defScope stm) s.heap.objs.size f cdv)) → A.guards = some [] →
      DSs (cxOf (L2.CX P w) P w K mg base N qual (defScope stm) f cdv A outer s H E) (WE E) (defBody stm) p) :
    FnG P w K mg base (k + 1) f fd ps (toSp K n sp) := by
  refine Fun.gok Fn S (fun vs H Q E h => by rw [toSp_len h, hn]) fun cdv A outer s H vs Q E hr hG hsp => ⟨_, hbody cdv A outer s H E hr hG, ?_⟩
  obtain ⟨g, F, M, O, ds, q, e, _, A0, rp, hsp, hQ, hE⟩ := hsp
  refine ⟨_, _, _, _, _, _, _, A0.enter (N := N) rp, hs ds M q e hsp, ?_, ?_, ?_, ?_, ?_, ?_⟩
  · intro cls dd σ' H' ρ' M' F' O' fs A2 s2 x2 ⟨M2, h1, h2⟩
    exact hE cls dd H' F' _ M2 fs (A2.leave h1) x2 h2
  · intro σ' H' ρ' M' F' O' A2 s2 ⟨M2, h1, h2⟩
    exact hQ .non H' F' _ M2 .non (A2.leave h1) rfl h2
  · intro v σ' H' ρ' M' F' O' d A2 s2 r2 ⟨M2, h1, h2⟩
    exact hQ v H' F' _ M2 d (A2.leave h1) r2 h2
  · intro σ' H' ρ' M' F' O' A2 s2 z; exact z.elim
  · intro σ' H' ρ' M' F' O' A2 s2 z; exact z.elim
  · intro a xs σ' H' ρ' M' F' O' ds A2 s2 e1 e2 e3 e4 e5 z; exact z.elim
end
section
variable {X : Cx} {W : WX} {k n : Nat} {f : Addr} {fd : FuncData} {ps : List Str} {sp : PSp} {x : Str} {p pos : Pos} {e : Expr} {es : List Expr} {pl : PTA} {ds : List Value} {dd : List D} {dvs : List V}
theorem run_g {sp : Sp} {pins : List (Addr × Obj)} {σ : L2.St} {H : Hp} {s : Shared} {Q : VK} {us : List Value} {vs : List V} (Fg : FnG X.prog X.w X.K X.mg X.base k f fd ps sp) (hr : Room k X.A) (hG : X.A.guards = some []) (hb : Binds X.K fd ps ds) (hd : Vals dvs ds)
    (tk : Takes X W) (I : Inv X pins σ H s) (r : Vals vs us) (h : sp (vs ++ dvs) H Q (fun cls d H' => W cls d σ H')) : wpAny (model X.prog X.w) X.A (call (.ref f) us) (EP X pins σ Q) X.xe s := by
  have r2 : Vals (vs ++ dvs) (us ++ ds) := r.append hd
  have hl : (us ++ ds).length = ps.length := by rw [← r2.length]; exact Fg.len _ _ _ _ h
  refine wpAny_call (codeAny_mono (Fg.run X.A X.stack s H ⟨us, []⟩ (us ++ ds) (vs ++ dvs) Q _ hr hG I.env0 (hb s us I.kIn hl) r2 h) fun r s' hq => ?_)
  cases r with
  | error e => exact tk e s' (XE.of_call I (fun _ _ _ h => h) hq)
  | ok fl =>
    cases fl with
    | ret u => exact I.after hq
    | next => exact hq.elim
    | brk => exact hq.elim
    | cont => exact hq.elim
def dCall (sp : PSp) (dd : List D) (pl : PTA) : PTE := fun w ρ M q => pl w ρ M fun ds M1 => sp (ds ++ dd) M1 q fun cls fs M2 => w cls fs ρ M2
theorem call_reading {K : PySem.W.Frag} {g : Gh} {σ : L2.St} {H : Hp} {ρ : Rho} {M : Mm} {F : Hp} {O : Own} {w : PWi} {q : PQ} {ds : List D} {vs : List V} {Q : VK} (hn : ps.length = n) (hd : ∀ F, RpL K F dd dvs) (A : Ab K g σ H ρ M F O) (hw : WOk K g F W w)
    (r : RpL K F ds vs) (hl : (ds ++ dd).length = n) (h : sp (ds ++ dd) M q fun cls fs M2 => w cls fs ρ M2) (k : ∀ v H' F' O' M' d, Ab K g σ H' ρ M' F' O' → Same F F' → Rp K F' d v → q d M' → Q v H') :
    toSp K n sp (vs ++ dvs) H Q fun cls d H' => W cls d σ H' := by
  have r2 := r.app (hd F)
  refine ⟨g, F, M, O, ds ++ dd, q, _, by rw [← hl, r2.len], A.toWd, r2, h, fun v H' F' O' M' d B rd hq => ?_, fun cls dd H' F' O' M' fs B x hq => ?_⟩
  · obtain ⟨O2, A2, s⟩ := A.after B
    exact k v H' F' O2 M' d A2 s rd hq
  · obtain ⟨O2, A2, s⟩ := A.after B
    exact hw cls dd σ H' ρ M' F' O2 fs A2 s x hq
theorem de_callD (Fg : FnG X.prog X.w X.K X.mg X.base k f fd ps (toSp X.K n sp)) (hn : ps.length = n) (hlen : ∀ ds M q e, sp ds M q e → ds.length = n) (hr : Room k X.A) (hG : X.A.guards = some []) (hg : Gl X x) (hm : X.mg x = some (.ref f))
    (hk : PySem.W.keepIn X.K (.ref f) = true) (hb : Binds X.K fd ps ds) (hv : Vals dvs ds) (hd : ∀ F, RpL X.K F dd dvs) (tk : Takes X W) (ha : DA X W (e :: es) pl) (hdb : (x == ("__debug__" : Str)) = false := by decide)
    (he : starEach (e :: es) X.env = (false, eval e X.env) :: starEach es X.env := by rfl) (hpl : (backTo pos (starEach es X.env)).any (·.1) = false := by rfl) : DE X W (.Call (.Name x p) (e :: es) [] pos) (dCall sp dd pl) := by
  refine ⟨fun pins s σ H Q I hEl => hEl.el fun g ρ M F O q w A pr hw k => ?_⟩
  refine wpAny_Call_Name_kw (ld_glob I hg hm ?_ hdb)
  refine PySem.W.callWith_K (h₀ := X.base) I.ok.mod.kin hk (thn (ha.run pos pins s σ H (fun vs H1 => toSp X.K n sp (vs ++ dvs) H1 Q fun cls d H' => W cls d σ H') I ?_) fun us s1 hh => ?_) he hpl
  · exact (.mk A pr hw (fun vs H1 F1 O1 M1 d1 A1 s1 r1 q1 => call_reading hn hd A1 (hw.mono s1) r1 (hlen _ _ _ _ q1) q1 fun v H2 F2 O2 M2 d2 A2 s2 r2 q2 => k v H2 F2 O2 M2 d2 A2 (s1.trans s2) r2 q2))
  · obtain ⟨vs, H1, I1, r, q1⟩ := hh
    exact ⟨I1.kIn, run_g Fg hr hG hb hv tk I1 r q1⟩
theorem de_call (Fg : FnG X.prog X.w X.K X.mg X.base k f fd ps (toSp X.K n sp)) (hn : ps.length = n) (hlen : ∀ ds M q e, sp ds M q e → ds.length = n) (hr : Room k X.A) (hG : X.A.guards = some []) (hg : Gl X x) (hm : X.mg x = some (.ref f))
    (hk : PySem.W.keepIn X.K (.ref f) = true) (hb : Binds X.K fd ps []) (tk : Takes X W) (ha : DA X W (e :: es) pl) (hdb : (x == ("__debug__" : Str)) = false := by decide)
    (he : starEach (e :: es) X.env = (false, eval e X.env) :: starEach es X.env := by rfl) (hpl : (backTo pos (starEach es X.env)).any (·.1) = false := by rfl) : DE X W (.Call (.Name x p) (e :: es) [] pos) (dCall sp [] pl) :=
  de_callD Fg hn hlen hr hG hg hm hk hb .nil (fun _ => rfl) tk ha hdb he hpl
end
end Px
set_option Elab.async false
set_option linter.all false
set_option maxRecDepth 100000
namespace Px
open PySem PySem.Spec PyProof.Rows L2
section
variable {X : Cx} {W : WX} {st1 : Stmt} {rest ss tt : List Stmt} {e c : Expr} {pe : PTE} {pl : PTA} {pt : PTT} {p p2 : PTS} {pos : Pos}
def dNext : PTS := fun _ P ρ M => P.nx ρ M
def dSeq (p q : PTS) : PTS := fun w P ρ M => p w { P with nx := q w P } ρ M
theorem dss_nil : DSs X W [] dNext := pss_imp pss_nil fun D σ H hE => hE.el fun g ρ M F O P w A h hw k1 _ _ _ _ => k1 σ H ρ M F O A (Same.refl F) h
theorem dss_one (h : DS X W st1 p) : DSs X W [st1] p := pss_one h
theorem dss_cons (h1 : DS X W st1 p) (h2 : DSs X W rest p2) : DSs X W (st1 :: rest) (dSeq p p2) := pss_imp (pss_cons h1 h2) fun D σ H hE => hE.el fun g ρ M F O P w A h hw k1 k2 k3 k4 k5 =>
  ⟨g, ρ, M, F, O, _, w, A, h, hw, fun σ' H' ρ' M' F' O' A' s q => ⟨g, ρ', M', F', O', P, w, A', q, hw.mono s,
      fun σ2 H2 ρ2 M2 F2 O2 A2 s2 q2 => k1 σ2 H2 ρ2 M2 F2 O2 A2 (s.trans s2) q2, fun v σ2 H2 ρ2 M2 F2 O2 d A2 s2 r2 q2 => k2 v σ2 H2 ρ2 M2 F2 O2 d A2 (s.trans s2) r2 q2,
      fun σ2 H2 ρ2 M2 F2 O2 A2 s2 q2 => k3 σ2 H2 ρ2 M2 F2 O2 A2 (s.trans s2) q2, fun σ2 H2 ρ2 M2 F2 O2 A2 s2 q2 => k4 σ2 H2 ρ2 M2 F2 O2 A2 (s.trans s2) q2, fun a xs σ2 H2 ρ2 M2 F2 O2 ds A2 s2 e1 e2 e3 e4 e5 q2 => k5 a xs σ2 H2 ρ2 M2 F2 O2 ds A2 (s.trans s2) e1 e2 e3 e4 e5 q2⟩, k2, k3, k4, k5⟩
def dRet (pe : PTE) : PTS := fun w P ρ M => pe w ρ M P.rt
theorem ds_ret (h : DE X W e pe) : DS X W (.Return (some e) pos) (dRet pe) := ps_imp (ps_ret h) fun D σ H hE => hE.el fun g ρ M F O P w A h hw k1 k2 _ _ _ =>
  (.mk A h hw (fun v H' F' O' M' d A' s r q => k2 v σ H' ρ M' F' O' d A' s r q))
def dDrop (pe : PTE) : PTS := fun w P ρ M => pe w ρ M fun _ M' => P.nx ρ M'
theorem ds_expr (h : DE X W e pe) (hs : swapsWith e none pos.line X.env = pure false := by rfl) : DS X W (.Expr e pos) (dDrop pe) := ps_imp (ps_expr h hs) fun D σ H hE => hE.el fun g ρ M F O P w A h hw k1 k2 _ _ _ =>
  (.mk A h hw (fun v H' F' O' M' d A' s r q => k1 σ H' ρ M' F' O' A' s q))
def dIfS (pt : PTT) (p q : PTS) : PTS := fun w P ρ M => pt w ρ M fun b M' => if b = true then p w P ρ M' else q w P ρ M'
theorem ds_if (hc : DT X W c pt) (ha : DSs X W ss p) (hb : DSs X W tt p2) : DS X W (.If c ss tt pos) (dIfS pt p p2) := ps_imp (ps_if hc ha hb) fun D σ H hE => hE.el fun g ρ M F O P w A h hw k1 k2 k3 k4 k5 =>
  (.mk A h hw (fun b H' F' O' M' A' s q => by
    cases b with
    | true => exact ⟨g, ρ, M', F', O', P, w, A', q, hw.mono s, fun σ2 H2 ρ2 M2 F2 O2 A2 s2 q2 => k1 σ2 H2 ρ2 M2 F2 O2 A2 (s.trans s2) q2, fun v σ2 H2 ρ2 M2 F2 O2 d A2 s2 r2 q2 => k2 v σ2 H2 ρ2 M2 F2 O2 d A2 (s.trans s2) r2 q2,
      fun σ2 H2 ρ2 M2 F2 O2 A2 s2 q2 => k3 σ2 H2 ρ2 M2 F2 O2 A2 (s.trans s2) q2, fun σ2 H2 ρ2 M2 F2 O2 A2 s2 q2 => k4 σ2 H2 ρ2 M2 F2 O2 A2 (s.trans s2) q2, fun a xs σ2 H2 ρ2 M2 F2 O2 ds A2 s2 e1 e2 e3 e4 e5 q2 => k5 a xs σ2 H2 ρ2 M2 F2 O2 ds A2 (s.trans s2) e1 e2 e3 e4 e5 q2⟩
    | false => exact ⟨g, ρ, M', F', O', P, w, A', q, hw.mono s, fun σ2 H2 ρ2 M2 F2 O2 A2 s2 q2 => k1 σ2 H2 ρ2 M2 F2 O2 A2 (s.trans s2) q2, fun v σ2 H2 ρ2 M2 F2 O2 d A2 s2 r2 q2 => k2 v σ2 H2 ρ2 M2 F2 O2 d A2 (s.trans s2) r2 q2,
      fun σ2 H2 ρ2 M2 F2 O2 A2 s2 q2 => k3 σ2 H2 ρ2 M2 F2 O2 A2 (s.trans s2) q2, fun σ2 H2 ρ2 M2 F2 O2 A2 s2 q2 => k4 σ2 H2 ρ2 M2 F2 O2 A2 (s.trans s2) q2, fun a xs σ2 H2 ρ2 M2 F2 O2 ds A2 s2 e1 e2 e3 e4 e5 q2 => k5 a xs σ2 H2 ρ2 M2 F2 O2 ds A2 (s.trans s2) e1 e2 e3 e4 e5 q2⟩))
abbrev PTG := D → Rho → (Rho → Prop) → Prop
abbrev PTGs := List D → Rho → (Rho → Prop) → Prop
def realG (K : PySem.W.Frag) (is : List Nat) (gd : PTG) : TG := fun v σ H Q => ∃ g ρ M F O d k, Ab K g σ H ρ M F O ∧ Rp K F d v ∧ gd d ρ k ∧
  ∀ σ' ρ', Ab K g σ' H ρ' M F O → (∀ j, j ∉ is → σ'[j]? = σ[j]? ∧ gt ρ' j = gt ρ j) → σ'.length = σ.length → k ρ' → Q σ' H
def realGs (K : PySem.W.Frag) (is : List Nat) (gd : PTGs) : TGs := fun vs σ H Q => ∃ g ρ M F O ds k, Ab K g σ H ρ M F O ∧ RpL K F ds vs ∧ gd ds ρ k ∧
  ∀ σ' ρ', Ab K g σ' H ρ' M F O → (∀ j, j ∉ is → σ'[j]? = σ[j]? ∧ gt ρ' j = gt ρ j) → σ'.length = σ.length → k ρ' → Q σ' H
abbrev DG (X : Cx) (tg : Expr) (is : List Nat) (gd : PTG) : Prop := PG X tg (realG X.K is gd)
abbrev DGs (X : Cx) (tgs : List Expr) (is : List Nat) (gd : PTGs) : Prop := PGs X tgs (realGs X.K is gd)
theorem pg_imp {tg : Expr} {t t' : TG} (h : PG X tg t) (i : ∀ v σ H Q, t' v σ H Q → t v σ H Q) : PG X tg t' := ⟨fun pins s σ H v u Q I r hw => h.run pins s σ H v u Q I r (i v σ H Q hw)⟩
theorem pgs_imp {tgs : List Expr} {t t' : TGs} (h : PGs X tgs t) (i : ∀ v σ H Q, t' v σ H Q → t v σ H Q) : PGs X tgs t' := ⟨fun pins s σ H v u Q I r hw => h.run pins s σ H v u Q I r (i v σ H Q hw)⟩
def gNm (i : Nat) : PTG := fun d ρ k => k (st ρ i (.val d))
theorem dg_nm (i : Nat) {x : Str} (hN : X.N.Nodup) (hi : X.N[i]? = some x := by rfl) (hx : Loc X.env.scope x := by first | exact Or.inl rfl | exact Or.inr rfl) (hf : X.fn x = true ∨ X.env.scope.names.lookup x = some .local := by first | exact .inl rfl | exact .inr rfl) :
    DG X (.Name x pos) [i] (gNm i) := pg_imp (pg_name hN hi hx hf) fun v σ H Q ⟨g, ρ, M, F, O, d, k, A, r, h, q⟩ =>
  q _ _ (A.put r) (fun j hj => ⟨List.getElem?_set_ne (by intro z; exact hj (by simp [z])), gt_st_ne (by intro z; exact hj (by simp [z]))⟩) (List.length_set ..) h
def gsNil : PTGs := fun ds ρ k => match ds with | [] => k ρ | _ => False
def gsCons (gd : PTG) (gs : PTGs) : PTGs := fun ds ρ k => match ds with | d :: r => gd d ρ fun ρ' => gs r ρ' k | _ => False
theorem dgs_nil : DGs X [] [] gsNil := pgs_imp pgs_nil fun vs σ H Q ⟨g, ρ, M, F, O, ds, k, A, r, h, q⟩ => by
  cases ds with
  | nil => exact ⟨r, q σ ρ A (fun _ _ => ⟨rfl, rfl⟩) rfl h⟩
  | cons d r => exact (show False from h).elim
theorem dgs_cons {tg : Expr} {tgs : List Expr} {i1 i2 : List Nat} {gd : PTG} {gs : PTGs} (h1 : DG X tg i1 gd) (h2 : DGs X tgs i2 gs) (hs : (assignEach (tg :: tgs) X.env).map (·.2) = assign tg X.env :: (assignEach tgs X.env).map (·.2) := by rfl) : DGs X (tg :: tgs) (i1 ++ i2) (gsCons gd gs) :=
  pgs_imp (pgs_cons h1 h2 hs) fun vs σ H Q ⟨g, ρ, M, F, O, ds, k, A, r, h, q⟩ => by
    cases ds with
    | nil => exact (show False from h).elim
    | cons d ds =>
      obtain ⟨x, xs, e, rd, rl⟩ := r
      exact ⟨x, xs, e, g, ρ, M, F, O, d, _, A, rd, h, fun σ' ρ' A' n1 l1 h' => ⟨g, ρ', M, F, O, ds, k, A', rl, h', fun σ2 ρ2 A2 n2 l2 h2 =>
        q σ2 ρ2 A2 (fun j hj => ⟨(n2 j fun z => hj (List.mem_append_right _ z)).1.trans (n1 j fun z => hj (List.mem_append_left _ z)).1, (n2 j fun z => hj (List.mem_append_right _ z)).2.trans (n1 j fun z => hj (List.mem_append_left _ z)).2⟩) (l2.trans l1) h2⟩⟩
def gTp (n : Nat) (gs : PTGs) : PTG := fun d ρ k => match d with | .tup l => l.length = n ∧ gs l ρ k | _ => False
theorem dg_tup {es : List Expr} {k : Nat} {n : Nat} {is : List Nat} {gs : PTGs} (hc : X.calm = true) (h : DGs X es is gs) (hn : (assignEach es X.env).length = n := by rfl) (hst : (assignEach es X.env).findIdx? (·.1) = none := by rfl) : DG X (.Tuple es k pos) is (gTp n gs) :=
  pg_imp (pg_tup hc h hn hst) fun v σ H Q ⟨g, ρ, M, F, O, d, k, A, r, h, q⟩ => by
    cases d with
    | tup l =>
      obtain ⟨a, xs, e, s, rl⟩ := r
      exact ⟨a, xs, e, same_t A.sub s, by rw [← rl.len]; exact h.1, g, ρ, M, F, O, l, k, A, rl, h.2, q⟩
    | _ => exact (show False from h).elim
def dSet (i : Nat) (pe : PTE) : PTS := fun w P ρ M => pe w ρ M fun d M' => P.nx (st ρ i (.val d)) M'
theorem ds_set (i : Nat) {x : Str} {pos' : Pos} (hN : X.N.Nodup) (he : DE X W e pe) (hi : X.N[i]? = some x := by rfl) (hx : Loc X.env.scope x := by first | exact Or.inl rfl | exact Or.inr rfl) (hs : swapsWith e (some (.Name x pos')) pos.line X.env = pure false := by rfl)
    (hf : X.fn x = true ∨ X.env.scope.names.lookup x = some .local := by first | exact .inl rfl | exact .inr rfl) : DS X W (.Assign [.Name x pos'] e pos) (dSet i pe) := ps_imp (ps_set hN hi hx he hs hf) fun D σ H hE => hE.el fun g ρ M F O P w A h hw k1 _ _ _ _ =>
  (.mk A h hw (fun v H' F' O' M' d A' s r q => k1 _ H' _ M' F' O' (A'.put r) s q))
def dSetO (i : Nat) (pl : PTA) : PTS := fun w P ρ M => pl w ρ M fun ds M' => P.nx (st ρ i (.own ds)) M'
theorem ds_setO (i : Nat) {x : Str} {pos' : Pos} (hN : X.N.Nodup) (he : DL X W e pl) (hi : X.N[i]? = some x := by rfl) (hx : Loc X.env.scope x := by first | exact Or.inl rfl | exact Or.inr rfl) (hs : swapsWith e (some (.Name x pos')) pos.line X.env = pure false := by rfl)
    (hf : X.fn x = true ∨ X.env.scope.names.lookup x = some .local := by first | exact .inl rfl | exact .inr rfl) : DS X W (.Assign [.Name x pos'] e pos) (dSetO i pl) := ps_imp (ps_set hN hi hx he hs hf) fun D σ H hE => hE.el fun g ρ M F O P w A h hw k1 _ _ _ _ =>
  (.mk A h hw (fun a xs H' F' O' M' ds A' s hH r hF hO h0 q => k1 _ H' _ M' F' _ (A'.putOwn hH r hF hO h0) s q))
def ls2 (ds : List D) (k : D → D → Prop) : Prop := match ds with | [a, b] => k a b | _ => False
theorem ls2_of {ds : List D} {k : D → D → Prop} (h : ls2 ds k) : ∃ a b, ds = [a, b] ∧ k a b := by
  unfold ls2 at h
  split at h
  · exact ⟨_, _, rfl, h⟩
  · exact h.elim
def dPar (i j : Nat) (pl : PTA) : PTS := fun w P ρ M => pl w ρ M fun ds M' => ls2 ds fun a b => P.nx (st (st ρ i (.val a)) j (.val b)) M'
theorem ds_par (i j : Nat) {x y : Str} {a b : Expr} {px py pt : Pos} {kt k2 pt2} (hc : X.calm = true) (hN : X.N.Nodup) (ha : DA X W [a, b] pl) (hi : X.N[i]? = some x := by rfl) (hj : X.N[j]? = some y := by rfl) (hij : i ≠ j := by decide)
    (hx : X.env.scope.names.lookup x = some .local := by rfl) (hy : X.env.scope.names.lookup y = some .local := by rfl)
    (hw : swappedStores [.Tuple [.Name x px, .Name y py] kt pt] (.Tuple [a, b] k2 pt2) X.env = pure (some [x, y]) := by rfl)
    (hs : swapsWithSole [.Tuple [.Name x px, .Name y py] kt pt] (.Tuple [a, b] k2 pt2) pos.line X.env = pure false := by rfl) : DS X W (.Assign [.Tuple [.Name x px, .Name y py] kt pt] (.Tuple [a, b] k2 pt2) pos) (dPar i j pl) :=
  ps_imp (ps_par hc hN hi hj hij hx hy ha hw hs) fun D σ H hE => hE.el fun g ρ M F O P w A h hw k1 _ _ _ _ =>
  (.mk A h hw (fun vs H' F' O' M' ds A' s r q => by
      obtain ⟨a, b, rfl, q⟩ := ls2_of q
      obtain ⟨v, x1, e1, ra, u, x2, e2, rb, e3⟩ := r
      have e3 : x2 = [] := e3
      subst e3 e2 e1
      exact ⟨v, u, rfl, k1 _ H' _ M' F' O' ((A'.put ra).put rb) s q⟩))
def dWhile (pt : PTT) (pb : PTS) : PTS := fun w P ρ M => ∃ V : Nat → Rho → Mm → Prop, (∃ m, V m ρ M) ∧ ∀ m ρ M, V m ρ M → pt w ρ M fun b M' =>
  if b = true then pb w { P with nx := fun ρ2 M2 => ∃ m', m' < m ∧ V m' ρ2 M2, ct := fun ρ2 M2 => ∃ m', m' < m ∧ V m' ρ2 M2, bk := P.nx } ρ M' else P.nx ρ M'
theorem ds_while (hp : PassesOwn (model X.prog X.w) X.A X.env X.xe) (hc : DT X W c pt) (hb : DSs X W ss p) : DS X W (.While c ss [] pos) (dWhile pt p) := ps_imp (ps_while hp hc hb) fun D σ H hE => hE.el fun g ρ M F O P w A ⟨V, ⟨m0, v0⟩, turn⟩ hw k1 k2 k3 k4 k5 => by
  refine ⟨fun m σ' H' => ∃ ρ' M' F' O', Ab X.K g σ' H' ρ' M' F' O' ∧ Same F F' ∧ V m ρ' M', ⟨m0, ρ, M, F, O, A, Same.refl F, v0⟩, ?_⟩
  rintro m σ1 H1 ⟨ρ1, M1, F1, O1, A1, s1, v1⟩
  refine (.mk A1 (turn m ρ1 M1 v1) (hw.mono s1) (fun b H2 F2 O2 M2 A2 s2 q => ?_))
  cases b with
  | true =>
    rw [if_pos rfl] at q ⊢
    refine ⟨fun σ' H' => ∃ m', m' < m ∧ ∃ ρ' M' F' O', Ab X.K g σ' H' ρ' M' F' O' ∧ Same F F' ∧ V m' ρ' M', fun σ' H' h => h, ?_⟩
    refine ⟨g, ρ1, M2, F2, O2, _, w, A2, q, (hw.mono s1).mono s2, ?_, ?_, ?_, ?_, fun a xs σ3 H3 ρ3 M3 F3 O3 ds A3 s3 e1 e2 e3 e4 e5 q3 => k5 a xs σ3 H3 ρ3 M3 F3 O3 ds A3 ((s1.trans s2).trans s3) e1 e2 e3 e4 e5 q3⟩
    · intro σ3 H3 ρ3 M3 F3 O3 A3 s3 ⟨m', hm, v3⟩
      exact ⟨m', hm, ρ3, M3, F3, O3, A3, (s1.trans s2).trans s3, v3⟩
    · intro v σ3 H3 ρ3 M3 F3 O3 d A3 s3 r3 q3
      exact k2 v σ3 H3 ρ3 M3 F3 O3 d A3 ((s1.trans s2).trans s3) r3 q3
    · intro σ3 H3 ρ3 M3 F3 O3 A3 s3 q3
      exact k1 σ3 H3 ρ3 M3 F3 O3 A3 ((s1.trans s2).trans s3) q3
    · intro σ3 H3 ρ3 M3 F3 O3 A3 s3 ⟨m', hm, v3⟩
      exact ⟨m', hm, ρ3, M3, F3, O3, A3, (s1.trans s2).trans s3, v3⟩
  | false =>
    rw [if_neg Bool.false_ne_true] at q ⊢
    exact k1 σ1 H2 ρ1 M2 F2 O2 A2 (s1.trans s2) q
end
structure Wk (K : PySem.W.Frag) (J : It) (F : Hp) (ds : List D) : Prop where
  go : ∀ g σ ρ M F' O H i, Ab K g σ H ρ M F' O → Same F F' → i < ds.length → J.go i H
  yl : ∀ g σ ρ M F' O H i x H' d, Ab K g σ H ρ M F' O → Same F F' → J.yld i H x H' → ds[i]? = some d → ∃ F2, Ab K g σ H' ρ M F2 O ∧ Same F' F2 ∧ Rp K F2 d x
  sp : ∀ g σ ρ M F' O H, Ab K g σ H ρ M F' O → Same F F' → J.stop ds.length H
def realI (K : PySem.W.Frag) (W : WX) (p : PTA) : TI := fun σ H R => ∃ g ρ M F O q w, Ab K g σ H ρ M F O ∧ p w ρ M q ∧ WOk K g F W w ∧
  ∀ J H' F' O' M' ds, Ab K g σ H' ρ M' F' O' → Same F F' → Wk K J F' ds → q ds M' → R J H'
theorem realI.mk {K W p σ H R} {g : Gh} {ρ : Rho} {M : Mm} {F : Hp} {O : Own} {q w} (A : Ab K g σ H ρ M F O) (h : p w ρ M q) (hw : WOk K g F W w) (k : ∀ J H' F' O' M' ds, Ab K g σ H' ρ M' F' O' → Same F F' → Wk K J F' ds → q ds M' → R J H') : realI K W p σ H R := ⟨g, ρ, M, F, O, q, w, A, h, hw, k⟩
theorem realI.el {K W p σ H R} {C : Prop} (h : realI K W p σ H R) (f : ∀ g ρ M F O q w, Ab K g σ H ρ M F O → p w ρ M q → WOk K g F W w → (∀ J H' F' O' M' ds, Ab K g σ H' ρ M' F' O' → Same F F' → Wk K J F' ds → q ds M' → R J H') → C) : C := by
  obtain ⟨g, ρ, M, F, O, q, w, A, a, b, c⟩ := h
  exact f g ρ M F O q w A a b c
abbrev DI (X : Cx) (W : WX) (tg e : Expr) (p : PTA) : Prop := PI X tg e (realI X.K W p)
section
variable {X : Cx} {W : WX} {tg e a b : Expr} {pe pa pb : PTE} {pl : PTA} {pos p : Pos}
theorem pi_imp {t t' : TI} (h : PI X tg e t) (i : ∀ σ H R, t' σ H R → t σ H R) : PI X tg e t' := ⟨fun pins s σ H R I hw => h.run pins s σ H R I (i σ H R hw)⟩
theorem wk_list {K : PySem.W.Frag} {F : Hp} {a : Addr} {xs : List V} {ds : List D} (h : SqL K F a xs) (r : RpL K F ds xs) : Wk K (Itl K a) F ds where
  go := fun g σ ρ M F' O H i A s hi => ⟨xs, xs[i]'(by rw [← r.len]; exact hi), same_l (s.trans A.sub) h, List.getElem?_eq_getElem _⟩
  yl := fun g σ ρ M F' O H i x H' d A s ⟨e, hx⟩ hd => by
    obtain ⟨y, h1, h2⟩ := r.get hd
    have e2 := hx xs (same_l (s.trans A.sub) h)
    rw [h1] at e2
    cases e2
    exact ⟨F', by rw [e]; exact A, Same.refl F', Rp.mono s _ _ h2⟩
  sp := fun g σ ρ M F' O H A s => ⟨xs, same_l (s.trans A.sub) h, Nat.le_of_eq r.len.symm⟩
theorem wk_tup {K : PySem.W.Frag} {F : Hp} {a : Addr} {xs : List V} {ds : List D} (h : SqT K F a xs) (r : RpL K F ds xs) : Wk K (Itt K a) F ds where
  go := fun g σ ρ M F' O H i A s hi => ⟨xs, xs[i]'(by rw [← r.len]; exact hi), same_t (s.trans A.sub) h, List.getElem?_eq_getElem _⟩
  yl := fun g σ ρ M F' O H i x H' d A s ⟨e, hx⟩ hd => by
    obtain ⟨y, h1, h2⟩ := r.get hd
    have e2 := hx xs (same_t (s.trans A.sub) h)
    rw [h1] at e2
    cases e2
    exact ⟨F', by rw [e]; exact A, Same.refl F', Rp.mono s _ _ h2⟩
  sp := fun g σ ρ M F' O H A s => ⟨xs, same_t (s.trans A.sub) h, Nat.le_of_eq r.len.symm⟩
def rngD (lo : Int) (n : Nat) : List D := (List.range n).map fun (i : Nat) => .int (lo + (i : Int))
theorem wk_range {K : PySem.W.Frag} {F : Hp} {lo : Int} {n : Nat} : Wk K (Itr lo n) F (rngD lo n) where
  go := fun g σ ρ M F' O H i A s hi => by
    unfold rngD at hi
    rw [List.length_map, List.length_range] at hi
    exact hi
  yl := fun g σ ρ M F' O H i x H' d A s ⟨e, hx⟩ hd => by
    subst e
    unfold rngD at hd
    rw [List.getElem?_map] at hd
    cases q : (List.range n)[i]? with
    | none => rw [q] at hd; cases hd
    | some j =>
      rw [q] at hd
      cases hd
      have e2 : j = i := by
        obtain ⟨h1, h2⟩ := List.getElem?_eq_some_iff.mp q
        rw [List.getElem_range] at h2
        exact h2.symm
      subst e2
      exact ⟨F', A, Same.refl F', hx⟩
  sp := fun g σ ρ M F' O H A s => by
    unfold rngD
    rw [List.length_map, List.length_range]
    exact Nat.le_refl _
def iL (pe : PTE) : PTA := fun w ρ M q => pe w ρ M fun d M' => match d with | .lst l => q l M' | .scr ns => q (ns.map .int) M' | _ => False
theorem di_list (h : DE X W e pe) : DI X W tg e (iL pe) := pi_imp (pi_list h) fun σ H R hE => hE.el fun g ρ M F O q w A pr hw k =>
  (.mk A pr hw (fun v H' F' O' M' d A' s r q => by
    cases d with
    | lst l =>
      obtain ⟨a, xs, e, hs, rl⟩ := r
      exact ⟨a, e, ⟨xs, .inl (.inl (A'.sub _ _ hs))⟩, k _ H' F' O' M' l A' s (wk_list (.inl (.inl hs)) rl) q⟩
    | scr ns =>
      obtain ⟨a, e, hs⟩ := r
      exact ⟨a, e, ⟨_, same_l A'.sub hs⟩, k _ H' F' O' M' _ A' s (wk_list hs (RpL.of_ints ns)) q⟩
    | _ => exact (show False from q).elim))
def iR1 (pa : PTE) : PTA := fun w ρ M q => pa w ρ M fun d M' => match d with | .int n => -1000000 ≤ n ∧ n ≤ 1000000 ∧ q (rngD 0 n.toNat) M' | _ => False
theorem di_r1 (hg : Gl X "range") (hm : X.mg "range" = none) (ha : DE X W a pa) (he : starEach [a] X.env = (false, eval a X.env) :: starEach [] X.env := by rfl) (hs : starEach [a] X.env = [(false, eval a X.env)] := by rfl) : DI X W tg (.Call (.Name "range" p) [a] [] pos) (iR1 pa) :=
  pi_imp (pi_range1 hg hm (pa_cons ha pa_nil he) hs) fun σ H R hE => hE.el fun g ρ M F O q w A pr hw k =>
  (.mk A pr hw (fun v H' F' O' M' d A' s r q => by
    cases d with
    | int n => exact ⟨n, by rw [show v = .int n from r], by have := q.1; omega, by have := q.2.1; omega, k _ H' F' O' M' _ A' s wk_range q.2.2⟩
    | _ => exact (show False from q).elim))
def enumD : Nat → List D → List D
  | _, [] => []
  | n, d :: r => .tup [.int n, d] :: enumD (n + 1) r
theorem enumD_get : ∀ (l : List D) (n i : Nat), (enumD n l)[i]? = (l[i]?).map fun d => .tup [.int ((n + i : Nat) : Int), d]
  | [], n, i => by simp [enumD]
  | d :: r, n, 0 => by simp [enumD]
  | d :: r, n, i + 1 => by
    show (enumD (n + 1) r)[i]? = _
    rw [enumD_get r (n + 1) i]
    have e : n + 1 + i = n + (i + 1) := by omega
    rw [e]
    rfl
theorem enumD_len : ∀ (l : List D) (n : Nat), (enumD n l).length = l.length
  | [], _ => rfl
  | d :: r, n => by show (enumD (n + 1) r).length + 1 = _; rw [enumD_len r]; rfl
theorem wk_enum {K : PySem.W.Frag} {F : Hp} {a : Addr} {xs : List V} {ds : List D} (h : SqL K F a xs) (r : RpL K F ds xs) : Wk K (Ite K a) F (enumD 0 ds) where
  go := fun g σ ρ M F' O H i A s hi => by
    rw [enumD_len] at hi
    exact ⟨xs, xs[i]'(by rw [← r.len]; exact hi), same_l (s.trans A.sub) h, List.getElem?_eq_getElem _⟩
  yl := fun g σ ρ M F' O H i x H' d A s ⟨T, y, ex, hT, eH, hx⟩ hd => by
    rw [enumD_get] at hd
    cases q : ds[i]? with
    | none => rw [q] at hd; cases hd
    | some d0 =>
      rw [q] at hd
      cases hd
      obtain ⟨z, h1, h2⟩ := r.get q
      have e2 := hx xs (same_l (s.trans A.sub) h)
      rw [h1] at e2
      have e3 : z = y := Option.some.inj e2
      subst e3 eH ex
      have sn := same_new (o := .tup [.int (i : Nat), z]) (A.f0 hT)
      exact ⟨_, A.lay hT, sn, T, _, rfl, .inl (.inl upd_same), .int (i : Nat), _, rfl, by rw [Nat.zero_add]; rfl, z, _, rfl, Rp.mono (s.trans sn) _ _ h2, rfl⟩
  sp := fun g σ ρ M F' O H A s => ⟨xs, same_l (s.trans A.sub) h, by rw [enumD_len, r.len]; exact Nat.le_refl _⟩
end
def forR (gd : PTG) (pb : PTS) (w : PWi) : List D → PEnds → Rho → Mm → Prop
  | [], P, ρ, M => P.nx ρ M
  | x :: r, P, ρ, M => gd x ρ fun ρ' => pb w { P with nx := forR gd pb w r P, ct := forR gd pb w r P, bk := P.nx } ρ' M
def dFor (pl : PTA) (gd : PTG) (pb : PTS) : PTS := fun w P ρ M => pl w ρ M fun ds M' => forR gd pb w ds P ρ M'
section
variable {X : Cx} {W : WX} {tg e : Expr} {ss : List Stmt} {pl : PTA} {gd : PTG} {is : List Nat} {pb : PTS} {pos : Pos}
theorem forR_at {w : PWi} {ds : List D} {P : PEnds} {ρ : Rho} {M : Mm} {i : Nat} {d : D} (h : ds[i]? = some d) (q : forR gd pb w (ds.drop i) P ρ M) :
    gd d ρ fun ρ' => pb w { P with nx := forR gd pb w (ds.drop (i + 1)) P, ct := forR gd pb w (ds.drop (i + 1)) P, bk := P.nx } ρ' M := by
  obtain ⟨hi, e⟩ := List.getElem?_eq_some_iff.mp h
  rw [List.drop_eq_getElem_cons hi, e] at q
  exact q
theorem ds_for (hp : PassesOwn (model X.prog X.w) X.A X.env X.xe) (hc : X.calm = true) (hi : DI X W tg e pl) (hg : DG X tg is gd) (hb : DSs X W ss pb) (hs : ∀ x, foldedSetIterable e X.env x = pure x := by intro _; rfl) : DS X W (.For tg e ss [] pos) (dFor pl gd pb) :=
  ps_imp (ps_for hp hc hi hg hb hs) fun D σ H hE => hE.el fun g ρ M F O P w A h hw k1 k2 k3 k4 k5 =>
  ⟨g, ρ, M, F, O, _, w, A, h, hw, fun J H1 F1 O1 M1 ds A1 s1 wk q => by
    refine ⟨fun i m σ' H' => ∃ ρ' M' F' O', Ab X.K g σ' H' ρ' M' F' O' ∧ Same F1 F' ∧ i ≤ ds.length ∧ m = ds.length - i ∧ forR gd pb w (ds.drop i) P ρ' M',
      ⟨ds.length, ρ, M1, F1, O1, A1, Same.refl F1, Nat.zero_le _, rfl, q⟩, ?_⟩
    rintro i m σ2 H2 ⟨ρ2, M2, F2, O2, A2, s2, hi2, rfl, q2⟩
    by_cases hlt : i < ds.length
    · refine .inr ⟨wk.go _ _ _ _ _ _ _ i A2 s2 hlt, fun σ' H' => ∃ ρ' M' F' O', Ab X.K g σ' H' ρ' M' F' O' ∧ Same F1 F' ∧ forR gd pb w (ds.drop (i + 1)) P ρ' M', ?_, ?_⟩
      · rintro σ' H' ⟨ρ', M', F', O', A', s', q'⟩
        exact ⟨ds.length - (i + 1), by omega, ρ', M', F', O', A', s', hlt, rfl, q'⟩
      · intro x H3 y3
        have hd := List.getElem?_eq_getElem hlt
        obtain ⟨F3, A3, s3, r3⟩ := wk.yl _ _ _ _ _ _ _ i x H3 _ A2 s2 y3 hd
        have q3 := forR_at hd q2
        have w3 : WOk X.K g F3 W w := (hw.mono s1).mono (s2.trans s3)
        refine ⟨g, ρ2, M2, F3, O2, _, _, A3, r3, q3, fun σ4 ρ4 A4 _ _ q4 => ⟨g, ρ4, M2, F3, O2, _, w, A4, q4, w3, ?_, ?_, ?_, ?_, fun a xs σ5 H5 ρ5 M5 F5 O5 ds A5 s5 e1 e2 e3 e4 e5 q5 => k5 a xs σ5 H5 ρ5 M5 F5 O5 ds A5 (s1.trans ((s2.trans s3).trans s5)) e1 e2 e3 e4 e5 q5⟩⟩
        · intro σ5 H5 ρ5 M5 F5 O5 A5 s5 q5
          exact ⟨ρ5, M5, F5, O5, A5, (s2.trans s3).trans s5, q5⟩
        · intro v σ5 H5 ρ5 M5 F5 O5 d A5 s5 r5 q5
          exact k2 v σ5 H5 ρ5 M5 F5 O5 d A5 (s1.trans ((s2.trans s3).trans s5)) r5 q5
        · intro σ5 H5 ρ5 M5 F5 O5 A5 s5 q5
          exact k1 σ5 H5 ρ5 M5 F5 O5 A5 (s1.trans ((s2.trans s3).trans s5)) q5
        · intro σ5 H5 ρ5 M5 F5 O5 A5 s5 q5
          exact ⟨ρ5, M5, F5, O5, A5, (s2.trans s3).trans s5, q5⟩
    · have e : i = ds.length := by omega
      subst e
      rw [List.drop_length] at q2
      exact .inl ⟨wk.sp _ _ _ _ _ _ _ A2 s2, k1 σ2 H2 ρ2 M2 F2 O2 A2 (s1.trans s2) q2⟩⟩
end
end Px
set_option Elab.async false
set_option linter.all false
set_option maxRecDepth 100000
namespace Px
open PySem PySem.Spec PyProof.Rows L2
def un : Rho → Nat → Rho
  | [], _ => []
  | _ :: r, 0 => none :: r
  | x :: r, n + 1 => x :: un r n
def uns (ρ : Rho) : List Nat → Rho
  | [] => ρ
  | v :: vs => un (uns ρ vs) v
theorem un_len : ∀ (ρ : Rho) (i : Nat), (un ρ i).length = ρ.length
  | [], _ => rfl
  | _ :: r, 0 => rfl
  | x :: r, n + 1 => by show (un r n).length + 1 = _; rw [un_len r n]; rfl
theorem uns_len (ρ : Rho) : ∀ vs : List Nat, (uns ρ vs).length = ρ.length
  | [] => rfl
  | v :: vs => by show (un (uns ρ vs) v).length = _; rw [un_len, uns_len ρ vs]
theorem gt_un_ne : ∀ {ρ : Rho} {i j : Nat}, j ≠ i → gt (un ρ i) j = gt ρ j
  | [], _, _, _ => rfl
  | _ :: r, 0, 0, h => absurd rfl h
  | _ :: r, 0, j + 1, _ => rfl
  | x :: r, n + 1, 0, _ => rfl
  | x :: r, n + 1, j + 1, h => gt_un_ne (ρ := r) fun e => h (by rw [e])
theorem gt_un_self : ∀ {ρ : Rho} {i : Nat}, gt (un ρ i) i = none
  | [], _ => rfl
  | _ :: r, 0 => rfl
  | x :: r, n + 1 => gt_un_self (ρ := r)
theorem gt_uns {ρ : Rho} {j : Nat} : ∀ {vs : List Nat}, (j ∉ vs → gt (uns ρ vs) j = gt ρ j) ∧ (j ∈ vs → gt (uns ρ vs) j = none)
  | [] => ⟨fun _ => rfl, fun h => nomatch h⟩
  | v :: vs => by
    obtain ⟨h1, h2⟩ := gt_uns (ρ := ρ) (j := j) (vs := vs)
    by_cases e : j = v
    · subst e
      exact ⟨fun h => absurd List.mem_cons_self h, fun _ => gt_un_self⟩
    · have q : gt (uns ρ (v :: vs)) j = gt (uns ρ vs) j := gt_un_ne e
      rw [q]
      exact ⟨fun h => h1 fun z => h (List.mem_cons_of_mem _ z), fun h => h2 ((List.mem_cons.mp h).resolve_left e)⟩
theorem wipe_at {σ : L2.St} {j : Nat} : ∀ {vs : List Nat}, (j ∉ vs → (wipe σ vs)[j]? = σ[j]?) ∧ (j ∈ vs → j < σ.length → (wipe σ vs)[j]? = some none)
  | [] => ⟨fun _ => rfl, fun h => nomatch h⟩
  | v :: vs => by
    obtain ⟨h1, h2⟩ := wipe_at (σ := σ) (j := j) (vs := vs)
    show (j ∉ v :: vs → ((wipe σ vs).set v none)[j]? = σ[j]?) ∧ (j ∈ v :: vs → j < σ.length → ((wipe σ vs).set v none)[j]? = some none)
    by_cases e : j = v
    · subst e
      exact ⟨fun h => absurd List.mem_cons_self h, fun _ hl => List.getElem?_set_self (by rw [wipe_length]; exact hl)⟩
    · rw [List.getElem?_set_ne (Ne.symm e)]
      exact ⟨fun h => h1 fun z => h (List.mem_cons_of_mem _ z), fun h => h2 ((List.mem_cons.mp h).resolve_left e)⟩
theorem wipe_eq {σ σ' : L2.St} {vs : List Nat} (hl : σ'.length = σ.length) (h : ∀ j, j ∉ vs → σ'[j]? = (wipe σ vs)[j]?) : wipe σ' vs = wipe σ vs := by
  refine List.ext_getElem? fun j => ?_
  by_cases hj : j ∈ vs
  · by_cases hlt : j < σ.length
    · rw [(wipe_at (vs := vs)).2 hj hlt, (wipe_at (vs := vs)).2 hj (by rw [hl]; exact hlt)]
    · rw [List.getElem?_eq_none (by rw [wipe_length]; omega), List.getElem?_eq_none (by rw [wipe_length]; omega)]
  · rw [(wipe_at (vs := vs)).1 hj]
    exact h j hj
def okW (ρ : Rho) (vs : List Nat) : Bool := vs.all fun v => match gt ρ v with | some (.own _) => false | some (.bag _ _) => false | some (.dct _ _ _) => false | _ => true
section
variable {K : PySem.W.Frag} {g g0 : Gh} {σ : L2.St} {H H0 : Hp} {ρ : Rho} {M M0 : Mm} {F F0 : Hp} {O O0 : Own} {D0 : Addr} {l l' : List D} {xs ys : List V}
theorem Ab.wiped (A : Ab K g σ H ρ M F O) (vs : List Nat) : Ab K g (wipe σ vs) H (uns ρ vs) M F O :=
  { toWd := A.toWd, len := by rw [uns_len, wipe_length]; exact A.len, sl := fun i sv e => by
      by_cases h : i ∈ vs
      · rw [gt_uns.2 h] at e; cases e
      · rw [gt_uns.1 h] at e
        obtain ⟨v, e1, r⟩ := A.sl i sv e
        exact ⟨v, by rw [wipe_at.1 h]; exact e1, r⟩ }
theorem Ab.unwiped {vs : List Nat} (A : Ab K g (wipe σ vs) H (uns ρ vs) M F O) (A0 : Ab K g0 σ H0 ρ M0 F0 O0) (s : Same F0 F) (h : okW ρ vs = true) : Ab K g σ H ρ M F O :=
  { toWd := A.toWd, len := A0.len, sl := fun i sv e => by
      by_cases hi : i ∈ vs
      · obtain ⟨v, e1, r⟩ := A0.sl i sv e
        refine ⟨v, e1, ?_⟩
        have z := List.all_eq_true.mp h i hi
        rw [e] at z
        cases sv with
        | val d => exact Rp.mono s d v r
        | own l => cases z
        | bag d b => cases z
        | dct c kvs b => cases z
      · obtain ⟨v, e1, r⟩ := A.sl i sv (by rw [gt_uns.1 hi]; exact e)
        exact ⟨v, by rw [wipe_at.1 hi] at e1; exact e1, r⟩ }
theorem Ab.congr {ρ' : Rho} (A : Ab K g σ H ρ M F O) (hl : ρ'.length = ρ.length) (h : ∀ j, gt ρ' j = gt ρ j) : Ab K g σ H ρ' M F O :=
  { toWd := A.toWd, len := hl.trans A.len, sl := fun i sv e => A.sl i sv (by rw [← h]; exact e) }
theorem Ab.tmpNew (A : Ab K g σ H ρ M F O) (h : H D0 = some (.lst xs)) (r : RpL K F l xs) (hF : F D0 = none) (hO : O D0 = none) (h0 : g.H0 D0 = none) :
    Ab K { g with tmp := (D0, l) :: g.tmp } σ H ρ M F (fun b => if b = D0 then some .tmp else O b) := by
  have keep : ∀ b u, O b = some u → (if b = D0 then some Ow.tmp else O b) = some u := fun b u e => by rw [if_neg (fun z => by rw [z, hO] at e; cases e)]; exact e
  exact { sub := A.sub, ext0 := A.ext0, new := A.new, frm := A.frm, thr := A.thr
          liv := fun b u e => by
            by_cases z : b = D0
            · subst z; exact ⟨⟨_, h⟩, hF, .inr h0⟩
            · rw [if_neg z] at e; exact A.liv b u e
          slo := fun b u e n => by
            by_cases z : b = D0
            · subst z; exact h0
            · rw [if_neg z] at e; exact A.slo b u e n
          tm := fun p l' e => by
            rcases List.mem_cons.mp e with z | z
            · cases z; exact ⟨xs, h, r, if_pos rfl⟩
            · obtain ⟨ys, e1, e2, e3⟩ := A.tm p l' z
              exact ⟨ys, e1, e2, keep p _ e3⟩
          mu := fun b mo e => (A.mu b mo e).mono (Same.refl F) fun q u e1 e2 => ⟨e1, keep q _ e2⟩
          len := A.len
          sl := fun j sv e => by
            obtain ⟨v, e1, r⟩ := A.sl j sv e
            exact ⟨v, e1, r.mono (Same.refl F) fun q xs e1 e2 => ⟨e1, keep q _ e2⟩⟩ }
theorem Ab.grow (A : Ab K { g with tmp := (D0, l) :: g.tmp } σ H ρ M F O) (nd : ∀ q ∈ g.tmp, q.1 ≠ D0) (r : RpL K F l' ys) : Ab K { g with tmp := (D0, l') :: g.tmp } σ (upd H D0 (.lst ys)) ρ M F O := by
  obtain ⟨xs, h, _, hO⟩ := A.tm D0 l List.mem_cons_self
  have h0 : g.H0 D0 = none := A.slo D0 _ hO (fun _ z => by cases z)
  obtain ⟨_, hF, _⟩ := A.liv D0 _ hO
  have ne : ∀ b u, O b = some u → u ≠ .tmp → b ≠ D0 := fun b u e n z => by rw [z, hO] at e; exact n (Option.some.inj e).symm
  exact { sub := fun b u e => by rw [upd_ne (fun z => by rw [z, hF] at e; cases e)]; exact A.sub b u e
          ext0 := A.ext0, new := A.new
          frm := fun b u e n => by
            have e' : g.H0 b = some u := e
            rw [upd_ne (fun z => by rw [z, h0] at e'; cases e')]; exact A.frm b u e n
          thr := fun b u e => by
            have e' : g.H0 b = some u := e
            rw [upd_ne (fun z => by rw [z, h0] at e'; cases e')]; exact A.thr b u e
          liv := fun b u e => by
            obtain ⟨r1, r2⟩ := A.liv b u e
            refine ⟨?_, r2⟩
            by_cases z : b = D0
            · subst z; exact ⟨_, upd_same⟩
            · rw [upd_ne z]; exact r1
          slo := A.slo
          tm := fun p l2 e => by
            rcases List.mem_cons.mp e with z | z
            · cases z; exact ⟨ys, upd_same, r, hO⟩
            · obtain ⟨zs, e1, e2, e3⟩ := A.tm p l2 (List.mem_cons_of_mem _ z)
              exact ⟨zs, by rw [upd_ne (nd _ z)]; exact e1, e2, e3⟩
          mu := fun b mo e => (A.mu b mo e).mono (Same.refl F) fun q u e1 e2 => ⟨by rw [upd_ne (ne q _ e2 (fun z => by cases z))]; exact e1, e2⟩
          len := A.len
          sl := fun j sv e => by
            obtain ⟨v, e1, q⟩ := A.sl j sv e
            exact ⟨v, e1, q.mono (Same.refl F) fun q xs e1 e2 => ⟨by rw [upd_ne (ne q _ e2 (fun z => by cases z))]; exact e1, e2⟩⟩ }
theorem Ab.made (A : Ab K { g with tmp := (D0, l) :: g.tmp } σ H ρ M F O) (nd : ∀ q ∈ g.tmp, q.1 ≠ D0) : ∃ xs O', Ab K g σ H ρ M F O' ∧ H D0 = some (.lst xs) ∧ RpL K F l xs ∧ F D0 = none ∧ O' D0 = none ∧ g.H0 D0 = none := by
  obtain ⟨xs, h, r, hO⟩ := A.tm D0 l List.mem_cons_self
  have h0 : g.H0 D0 = none := A.slo D0 _ hO (fun _ z => by cases z)
  obtain ⟨_, hF, _⟩ := A.liv D0 _ hO
  refine ⟨xs, fun b => if b = D0 then none else O b, ?_, h, r, hF, if_pos rfl, h0⟩
  have keep : ∀ b u, O b = some u → u ≠ .tmp → (if b = D0 then none else O b) = some u := fun b u e n => by rw [if_neg (fun z => by rw [z, hO] at e; exact n (Option.some.inj e).symm)]; exact e
  exact { sub := A.sub, ext0 := A.ext0, new := A.new, frm := A.frm, thr := A.thr
          liv := fun b u e => by
            by_cases z : b = D0
            · rw [if_pos z] at e; cases e
            · rw [if_neg z] at e; exact A.liv b u e
          slo := fun b u e n => by
            by_cases z : b = D0
            · rw [if_pos z] at e; cases e
            · rw [if_neg z] at e; exact A.slo b u e n
          tm := fun p l' e => by
            obtain ⟨ys, e1, e2, e3⟩ := A.tm p l' (List.mem_cons_of_mem _ e)
            exact ⟨ys, e1, e2, by rw [if_neg (nd _ e)]; exact e3⟩
          mu := fun b mo e => (A.mu b mo e).mono (Same.refl F) fun q u e1 e2 => ⟨e1, keep q _ e2 (fun z => by cases z)⟩
          len := A.len
          sl := fun j sv e => by
            obtain ⟨v, e1, r⟩ := A.sl j sv e
            exact ⟨v, e1, r.mono (Same.refl F) fun q xs e1 e2 => ⟨e1, keep q _ e2 (fun z => by cases z)⟩⟩ }
end
abbrev W0 : WX := fun _ _ _ _ => False
abbrev w0 : PWi := fun _ _ _ _ => False
def dYes : PTT := fun _ _ M q => q true M
abbrev DTs (X : Cx) (W : WX) (ifs : List Expr) (p : PTT) : Prop := PTs X ifs (realT X.K W p)
def compR (gd : PTG) (tt : PTT) (te : PTE) (ρ : Rho) : List D → List D → Mm → (List D → Mm → Prop) → Prop
  | [], acc, M, q => q acc M
  | x :: r, acc, M, q => gd x ρ fun ρ' => tt w0 ρ' M fun b M1 => if b = true then te w0 ρ' M1 fun y M2 => acc.length < 1000000 ∧ compR gd tt te ρ r (acc ++ [y]) M2 q else compR gd tt te ρ r acc M1 q
def dComp (vs : List Nat) (pl : PTA) (gd : PTG) (tt : PTT) (te : PTE) : PTA := fun w ρ M q => okW ρ vs = true ∧ pl w ρ M fun ds M1 => compR gd tt te (uns ρ vs) ds [] M1 q
section
variable {X : Cx} {W : WX} {elt tg iter : Expr} {ifs : List Expr} {scope : Scope} {own : List (Str × Nat)} {pos : Pos} {pl : PTA} {gd : PTG} {tt : PTT} {te : PTE} {is vs : List Nat}
theorem dts_nil : DTs X W [] dYes := by
  refine ⟨fun pins s σ H Q I hE => hE.el fun g ρ M F O q w A h hw k => ?_⟩
  exact pts_nil.run pins s σ H Q I (k true H F O M A (Same.refl F) h)
theorem dts_one {c : Expr} (h : DT X W c tt) : DTs X W [c] tt := pts_one h
theorem compR_at {ρ : Rho} {ds acc : List D} {M : Mm} {q : List D → Mm → Prop} {i : Nat} {d : D} (h : ds[i]? = some d) (k : compR gd tt te ρ (ds.drop i) acc M q) :
    gd d ρ fun ρ' => tt w0 ρ' M fun b M1 => if b = true then te w0 ρ' M1 fun y M2 => acc.length < 1000000 ∧ compR gd tt te ρ (ds.drop (i + 1)) (acc ++ [y]) M2 q else compR gd tt te ρ (ds.drop (i + 1)) acc M1 q := by
  obtain ⟨hi, e⟩ := List.getElem?_eq_some_iff.mp h
  rw [List.drop_eq_getElem_cons hi, e] at k
  exact k
theorem line_lt {n : Nat} (h : n < 1000000) : n < sizeLine := Nat.lt_of_lt_of_le h (by decide)
theorem comp_run {K : PySem.W.Frag} (hsub : ∀ j ∈ is, j ∈ vs) {σ : L2.St} {H : Hp} {Q : VK} (h : realL K W (dComp vs pl gd tt te) σ H Q) : tLc (realI K W pl) (realG K is gd) (realT K W0 tt) (real K W0 te) vs σ H Q := by
  obtain ⟨g, ρ, M, F, O, q, w, A, ⟨hW, pr⟩, hw, k⟩ := h
  refine (.mk A pr hw (fun J H1 F1 O1 M1 ds A1 s1 wk q1 => fun D0 hD => ?_))
  have nd : ∀ p ∈ g.tmp, p.1 ≠ D0 := fun p hp z => by
    obtain ⟨xs, e1, _⟩ := A1.tm p.1 p.2 hp
    rw [z, hD] at e1; cases e1
  have A2 := ((A1.laid (o := .lst []) hD).tmpNew (l := []) upd_same rfl (A1.f0 hD) (A1.o0 hD) (A1.g0 hD)).wiped vs
  refine ⟨fun i m H' => ∃ M' F' O' acc, Ab K { g with tmp := (D0, acc) :: g.tmp } (wipe σ vs) H' (uns ρ vs) M' F' O' ∧ Same F1 F' ∧ i ≤ ds.length ∧ m = ds.length - i ∧ compR gd tt te (uns ρ vs) (ds.drop i) acc M' q,
    ⟨ds.length, M1, F1, _, [], A2, Same.refl F1, Nat.zero_le _, rfl, q1⟩, ?_⟩
  rintro i m H2 ⟨M2, F2, O2, acc, A3, s3, hi2, rfl, q2⟩
  by_cases hlt : i < ds.length
  · refine .inr ⟨wk.go _ _ _ _ _ _ _ i A3 s3 hlt, fun H' => ∃ M' F' O' acc, Ab K { g with tmp := (D0, acc) :: g.tmp } (wipe σ vs) H' (uns ρ vs) M' F' O' ∧ Same F1 F' ∧ compR gd tt te (uns ρ vs) (ds.drop (i + 1)) acc M' q, ?_, ?_⟩
    · rintro H' ⟨M', F', O', acc', A', s', q'⟩
      exact ⟨ds.length - (i + 1), by omega, M', F', O', acc', A', s', hlt, rfl, q'⟩
    · intro x H3 y3
      have hd := List.getElem?_eq_getElem hlt
      obtain ⟨F3, A4, s4, r4⟩ := wk.yl _ _ _ _ _ _ _ i x H3 _ A3 s3 y3 hd
      have q3 := compR_at hd q2
      refine ⟨_, uns ρ vs, M2, F3, O2, _, _, A4, r4, q3, fun σ5 ρ5 A5 n5 l5 q5 => ?_⟩
      have ew : wipe σ5 vs = wipe σ vs := wipe_eq (by rw [l5, wipe_length]) fun j hj => (n5 j fun z => hj (hsub j z)).1
      have hl5 : ρ5.length = ρ.length := by rw [A5.len, l5, wipe_length, ← A1.len]
      have back : ∀ {H' : Hp} {M' : Mm} {F' : Hp} {O' : Own} {acc' : List D}, Ab K { g with tmp := (D0, acc') :: g.tmp } σ5 H' ρ5 M' F' O' → Ab K { g with tmp := (D0, acc') :: g.tmp } (wipe σ vs) H' (uns ρ vs) M' F' O' := fun {H' M' F' O' acc'} Z => by
        have Z2 := Z.wiped vs
        rw [ew] at Z2
        refine Z2.congr (by rw [uns_len, uns_len, hl5]) fun j => ?_
        by_cases hj : j ∈ vs
        · rw [gt_uns.2 hj, gt_uns.2 hj]
        · rw [gt_uns.1 hj, gt_uns.1 hj]
          have z := (n5 j fun z => hj (hsub j z)).2
          rw [gt_uns.1 hj] at z
          exact z.symm
      refine ⟨ew, _, ρ5, M2, F3, O2, _, w0, A5, q5, fun _ _ _ _ _ _ _ _ _ _ _ _ z => z, fun b H6 F6 O6 M6 A6 s6 q6 => ?_⟩
      cases b with
      | false =>
        rw [if_neg Bool.false_ne_true] at q6 ⊢
        exact ⟨M6, F6, O6, acc, back A6, (s3.trans s4).trans s6, q6⟩
      | true =>
        rw [if_pos rfl] at q6 ⊢
        refine ⟨_, ρ5, M6, F6, O6, _, w0, A6, q6, fun _ _ _ _ _ _ _ _ _ _ _ _ z => z, fun v H7 F7 O7 M7 d A7 s7 r7 ⟨z7, q7⟩ => ?_⟩
        obtain ⟨xs, h1, h2, _⟩ := A7.tm D0 acc List.mem_cons_self
        exact ⟨xs, h1, by rw [← h2.len]; exact line_lt z7, M7, F7, O7, _, back (A7.grow nd (h2.app (show RpL K F7 [d] [v] from ⟨v, [], rfl, r7, rfl⟩))), ((s3.trans s4).trans s6).trans s7, q7⟩
  · have e : i = ds.length := by omega
    subst e
    rw [List.drop_length] at q2
    refine .inl ⟨wk.sp _ _ _ _ _ _ _ A3 s3, ?_⟩
    have A4 := A3.unwiped A1 s3 hW
    obtain ⟨xs, O4, A5, h1, h2, h3, h4, h5⟩ := A4.made nd
    exact k D0 xs H2 F2 O4 M2 acc A5 (s1.trans s3) h1 h2 h3 h4 h5 q2
theorem dl_comp (hc : X.calm = true) (hN : X.N.Nodup) (hi : DI X W tg iter pl) (ok : BlkOk X.N X.env.scope scope own)
    (hg : ∀ (s : Shared) (H : Hp) (C : Addr) (cl : List (Str × Addr)) (fp : List Addr), DG (X.blk s H scope (compEnvC scope cl C X.env) fp) tg is gd)
    (ht : ∀ (s : Shared) (H : Hp) (C : Addr) (cl : List (Str × Addr)) (fp : List Addr), DTs (X.blk s H scope (compEnvC scope cl C X.env) fp) W0 ifs tt)
    (he : ∀ (s : Shared) (H : Hp) (C : Addr) (cl : List (Str × Addr)) (fp : List Addr), DE (X.blk s H scope (compEnvC scope cl C X.env) fp) W0 elt te) (hsub : ∀ j ∈ is, j ∈ own.map (·.2) := by decide)
    (hs : ∀ x, foldedSetIterable iter X.env x = pure x := by intro _; rfl) : DL X W (.ListComp elt [⟨tg, iter, ifs, 0⟩] scope pos) (dComp (own.map (·.2)) pl gd tt te) :=
  pe_imp (pe_lc hc hN hi ok hg ht he hs) fun σ H Q h => comp_run hsub h
theorem ds_setC (i : Nat) {y : Str} {py spos : Pos} (hc : X.calm = true) (hN : X.N.Nodup) (hsw : swapsWith (.ListComp elt [⟨tg, iter, ifs, 0⟩] scope pos) (some (.Name y py)) spos.line X.env = pure true) (hi : DI X W tg iter pl) (ok : BlkOk X.N X.env.scope scope own)
    (hg : ∀ (s : Shared) (H : Hp) (C : Addr) (cl : List (Str × Addr)) (fp : List Addr), DG (X.blk s H scope (compEnvC scope cl C X.env) fp) tg is gd)
    (ht : ∀ (s : Shared) (H : Hp) (C : Addr) (cl : List (Str × Addr)) (fp : List Addr), DTs (X.blk s H scope (compEnvC scope cl C X.env) fp) W0 ifs tt)
    (he : ∀ (s : Shared) (H : Hp) (C : Addr) (cl : List (Str × Addr)) (fp : List Addr), DE (X.blk s H scope (compEnvC scope cl C X.env) fp) W0 elt te) (hsub : ∀ j ∈ is, j ∈ own.map (·.2) := by decide)
    (hy : X.N[i]? = some y := by rfl) (hyl : X.env.scope.names.lookup y = some .local := by rfl) (hs : ∀ x, foldedSetIterable iter X.env x = pure x := by intro _; rfl) :
    DS X W (.Assign [.Name y py] (.ListComp elt [⟨tg, iter, ifs, 0⟩] scope pos) spos) (dSet i (dL (dComp (own.map (·.2)) pl gd tt te))) :=
  ps_imp (ps_setLc hc hN hy hyl hsw hi ok hg ht he hs) fun D σ H hE => hE.el fun g ρ M F O P w A h hw k1 _ _ _ _ => by
    refine comp_run (Q := fun x H1 => gName i x σ H1 D.nx) hsub (.mk A h hw (fun a xs H' F' O' M' ds A' s hH r hF hO h0 q => ?_))
    have s2 : Same F' (upd F' a (.lst xs)) := same_new hF
    exact k1 _ H' _ M' _ O' ((A'.freeze hH hF hO h0).put (d := .lst ds) ⟨a, xs, rfl, upd_same, RpL.mono s2 ds xs r⟩) (s.trans s2) q
theorem ds_setCO (i : Nat) {y : Str} {py spos : Pos} (hc : X.calm = true) (hN : X.N.Nodup) (hsw : swapsWith (.ListComp elt [⟨tg, iter, ifs, 0⟩] scope pos) (some (.Name y py)) spos.line X.env = pure true) (hi : DI X W tg iter pl) (ok : BlkOk X.N X.env.scope scope own)
    (hg : ∀ (s : Shared) (H : Hp) (C : Addr) (cl : List (Str × Addr)) (fp : List Addr), DG (X.blk s H scope (compEnvC scope cl C X.env) fp) tg is gd)
    (ht : ∀ (s : Shared) (H : Hp) (C : Addr) (cl : List (Str × Addr)) (fp : List Addr), DTs (X.blk s H scope (compEnvC scope cl C X.env) fp) W0 ifs tt)
    (he : ∀ (s : Shared) (H : Hp) (C : Addr) (cl : List (Str × Addr)) (fp : List Addr), DE (X.blk s H scope (compEnvC scope cl C X.env) fp) W0 elt te) (hsub : ∀ j ∈ is, j ∈ own.map (·.2) := by decide)
    (hy : X.N[i]? = some y := by rfl) (hyl : X.env.scope.names.lookup y = some .local := by rfl) (hs : ∀ x, foldedSetIterable iter X.env x = pure x := by intro _; rfl) :
    DS X W (.Assign [.Name y py] (.ListComp elt [⟨tg, iter, ifs, 0⟩] scope pos) spos) (dSetO i (dComp (own.map (·.2)) pl gd tt te)) :=
  ps_imp (ps_setLc hc hN hy hyl hsw hi ok hg ht he hs) fun D σ H hE => hE.el fun g ρ M F O P w A h hw k1 _ _ _ _ => by
    refine comp_run (Q := fun x H1 => gName i x σ H1 D.nx) hsub (.mk A h hw (fun a xs H' F' O' M' ds A' s hH r hF hO h0 q => ?_))
    exact k1 _ H' _ M' F' _ (A'.putOwn hH r hF hO h0) s q
end
end Px
set_option Elab.async false
set_option linter.all false
set_option maxRecDepth 100000
namespace Px
open PySem PySem.Spec PyProof.Rows L2
def dRaise (cls : Value) : PTS := fun w _ ρ M => w cls [] ρ M
section
variable {X : Cx} {W : WX}
structure ExcTxt (K : PySem.W.Frag) (mg : Str → Option Value) (x : Str) (C : Addr) : Prop where
  g : mg x = some (.ref C)
  x : PySem.W.excIn K C [.type "ValueError", .type "Exception", .type "BaseException", .type "object"] "ValueError.__new__" = true
  k : PySem.W.keepIn K (.ref C) = true
  b : PySem.W.subIn K (.ref C) (.type "BaseException") = some true
  t : PySem.W.typeIn K (.ref C) = some (.type "type")
theorem ds_raise {x m : Str} {j : Nat} {p p2 pos pos2 : Pos} {C : Addr} (hc : X.calm = true) (tk : Takes X W) (T : ExcTxt X.K X.mg x C) (hg : Gl X x) (hdb : (x == ("__debug__" : Str)) = false := by decide) :
    DS X W (.Raise (some (.Call (.Name x p) [.Constant (.str m) j p2] [] pos)) none pos2) (dRaise (.ref C)) :=
  ps_imp (ps_raise hc tk (pmk_own PySem.F.excBase_ValueError T.x T.g T.k (raises_own T.b T.t) hg hdb)) fun D σ H hE => hE.el fun g ρ M F O P w A h hw _ _ _ _ _ =>
    hw (.ref C) none σ H ρ M F O [] A (Same.refl F) rfl h
end
def ar1 (ds : List D) (f : D → Prop) : Prop := match ds with | [a] => f a | _ => False
def ar2 (ds : List D) (f : D → D → Prop) : Prop := match ds with | [a, b] => f a b | _ => False
def ar3 (ds : List D) (f : D → D → D → Prop) : Prop := match ds with | [a, b, c] => f a b c | _ => False
def ar4 (ds : List D) (f : D → D → D → D → Prop) : Prop := match ds with | [a, b, c, d] => f a b c d | _ => False
theorem ar1_of {ds : List D} {f : D → Prop} (h : ar1 ds f) : ∃ a, ds = [a] ∧ f a := by
  unfold ar1 at h
  split at h
  · exact ⟨_, rfl, h⟩
  · exact h.elim
theorem ar2_of {ds : List D} {f : D → D → Prop} (h : ar2 ds f) : ∃ a b, ds = [a, b] ∧ f a b := by
  unfold ar2 at h
  split at h
  · exact ⟨_, _, rfl, h⟩
  · exact h.elim
theorem ar3_of {ds : List D} {f : D → D → D → Prop} (h : ar3 ds f) : ∃ a b c, ds = [a, b, c] ∧ f a b c := by
  unfold ar3 at h
  split at h
  · exact ⟨_, _, _, rfl, h⟩
  · exact h.elim
theorem ar4_of {ds : List D} {f : D → D → D → D → Prop} (h : ar4 ds f) : ∃ a b c d, ds = [a, b, c, d] ∧ f a b c d := by
  unfold ar4 at h
  split at h
  · exact ⟨_, _, _, _, rfl, h⟩
  · exact h.elim
def asI (d : D) (f : Int → Prop) : Prop := match d with | .int i => f i | _ => False
theorem asI_of {d : D} {f : Int → Prop} (h : asI d f) : ∃ i, d = .int i ∧ f i := by
  unfold asI at h
  split at h
  · exact ⟨_, rfl, h⟩
  · exact h.elim
def asL (d : D) (f : List D → Prop) : Prop := match d with | .lst l => f l | _ => False
theorem asL_of {d : D} {f : List D → Prop} (h : asL d f) : ∃ l, d = .lst l ∧ f l := by
  unfold asL at h
  split at h
  · exact ⟨_, rfl, h⟩
  · exact h.elim
def updM (M : Mm) (a : Addr) (mo : Mo) : Mm := fun b => if b = a then some mo else M b
def asDraw (d : D) (M : Mm) (f : Prop) : Prop := match d with | .raw (.ref a) => M a = some .draw ∧ f | _ => False
theorem asDraw_of {d : D} {M : Mm} {f : Prop} (h : asDraw d M f) : ∃ a, d = .raw (.ref a) ∧ M a = some .draw ∧ f := by
  unfold asDraw at h
  split at h
  · exact ⟨_, rfl, h.1, h.2⟩
  · exact h.elim
def sp_begin : PSp := fun ds M q _ => ar1 ds fun d => match d with | .scr ns => ns.length ≤ 63 ∧ ∀ a, M a = none → q (.raw (.ref a)) (updM M a .draw) | _ => False
def sp_take : PSp := fun ds M q _ => ar2 ds fun d n => asDraw d M (asI n fun n => (0 < n ∧ n.natAbs.log2 < 9000) ∧ ∀ k : Int, 0 ≤ k → k < n → q (.int k) M)
section
variable {K : PySem.W.Frag} {g : Gh} {σ : L2.St} {H H' : Hp} {ρ : Rho} {M : Mm} {F F' : Hp} {O : Own} {a l p : Addr} {o : HO}
theorem Ab.poke (A : Ab K g σ H ρ M F O) (h : ∃ x, H p = some x) (hF : F p = none) (hO : O p = none) (h0 : g.H0 p = none) : Ab K g σ (upd H p o) ρ M F O := by
  have ne : ∀ b u, O b = some u → b ≠ p := fun b u e z => by rw [z, hO] at e; cases e
  exact { sub := fun b u e => by rw [upd_ne (fun z => by rw [z, hF] at e; cases e)]; exact A.sub b u e
          ext0 := A.ext0, new := A.new
          frm := fun b u e n => by rw [upd_ne (fun z => by rw [z, h0] at e; cases e)]; exact A.frm b u e n
          thr := fun b u e => by rw [upd_ne (fun z => by rw [z, h0] at e; cases e)]; exact A.thr b u e
          liv := fun b u e => by
            obtain ⟨r1, r2⟩ := A.liv b u e
            exact ⟨by rw [upd_ne (ne b u e)]; exact r1, r2⟩
          slo := A.slo
          tm := fun q l e => by
            obtain ⟨xs, e1, e2, e3⟩ := A.tm q l e
            exact ⟨xs, by rw [upd_ne (ne q _ e3)]; exact e1, e2, e3⟩
          mu := fun b mo e => (A.mu b mo e).mono (Same.refl F) fun q u e1 e2 => ⟨by rw [upd_ne (ne q _ e2)]; exact e1, e2⟩
          len := A.len
          sl := fun j sv e => by
            obtain ⟨v, e1, r⟩ := A.sl j sv e
            exact ⟨v, e1, r.mono (Same.refl F) fun q xs e1 e2 => ⟨by rw [upd_ne (ne q _ e2)]; exact e1, e2⟩⟩ }
theorem Ab.drawn {i : Nat} {big cells : List Int} {c : V} {rest turn mix : Int} (A : Ab K g σ H ρ M F O) (hi : gt ρ i = some (.own (big.map .int))) (hp : σ[i]? = some (some (.ref l))) (h : H p = some (.dK (drawKeys l c rest turn mix)))
    (hc : Rp K F (.lst (cells.map .int)) c) (hF : F p = none) (hO : O p = none) (h0 : g.H0 p = none) (hM : M p = none) (hb : big.length ≤ 63) (hl : cells.length ≤ 63) (m0 : 0 ≤ mix) (m1 : mix < 2147483629) :
    Ab K g σ H (un ρ i) (updM M p .draw) F (fun b => if b = p ∨ b = l then some (.obj p) else O b) := by
  obtain ⟨v, e1, p', xs, e2, e3, e4, e5⟩ := A.sl i _ hi
  rw [hp] at e1
  cases e1
  cases e2
  have ex := e4.ints
  subst ex
  obtain ⟨_, hFl, _⟩ := A.liv l _ e5
  have h0l : g.H0 l = none := A.slo l _ e5 (fun _ z => by cases z)
  have keep : ∀ b u, O b = some u → u ≠ .slot i → (if b = p ∨ b = l then some (Ow.obj p) else O b) = some u := fun b u e n => by
    rw [if_neg]
    · exact e
    · rintro (z | z)
      · rw [z, hO] at e; cases e
      · rw [z, e5] at e; exact n (Option.some.inj e).symm
  exact { sub := A.sub, ext0 := A.ext0, new := A.new, frm := A.frm, thr := A.thr
          liv := fun b u e => by
            by_cases z : b = p ∨ b = l
            · rcases z with z | z
              · subst z; exact ⟨⟨_, h⟩, hF, .inr h0⟩
              · subst z; exact ⟨⟨_, e3⟩, hFl, .inr h0l⟩
            · rw [if_neg z] at e; exact A.liv b u e
          slo := fun b u e n => by
            by_cases z : b = p ∨ b = l
            · rw [if_pos z] at e; exact absurd (Option.some.inj e).symm (n p)
            · rw [if_neg z] at e; exact A.slo b u e n
          tm := fun q l2 e => by
            obtain ⟨ys, e1, e2, e3⟩ := A.tm q l2 e
            exact ⟨ys, e1, e2, keep q _ e3 (fun z => by cases z)⟩
          mu := fun b mo e => by
            by_cases z : b = p
            · subst z
              have e' : mo = .draw := (Option.some.inj ((if_pos rfl).symm.trans (show (if b = b then some Mo.draw else M b) = some mo from e))).symm
              subst e'
              exact ⟨l, big, cells, c, rest, turn, mix, h, e3, hc, if_pos (.inl rfl), if_pos (.inr rfl), hb, hl, m0, m1⟩
            · have e' : M b = some mo := by
                have := e
                unfold updM at this
                rw [if_neg z] at this
                exact this
              exact (A.mu b mo e').mono (Same.refl F) fun q u e1 e2 => ⟨e1, keep q _ e2 (fun z => by cases z)⟩
          len := by rw [un_len]; exact A.len
          sl := fun j sv e => by
            by_cases z : j = i
            · subst z; rw [gt_un_self] at e; cases e
            · rw [gt_un_ne z] at e
              obtain ⟨v, e1, r⟩ := A.sl j sv e
              exact ⟨v, e1, r.mono (Same.refl F) fun q xs e1 e2 => ⟨e1, keep q _ e2 (fun y => z (by cases y; rfl))⟩⟩ }
theorem draw_after {cells big' : List Int} {c : V} {rest' turn' mix' : Int} (A : Wd K g H M F O) (hM : M a = some .draw) (hOa : O a = some (.obj a)) (hOl : O l = some (.obj a)) (hc : Rp K F (.lst (cells.map .int)) c) (hl : cells.length ≤ 63)
    (k : ∀ b o, b ≠ a → b ≠ l → H b = some o → H' b = some o) (h1 : H' a = some (.dK (drawKeys l c rest' turn' mix'))) (h2 : H' l = some (.lst (big'.map V.int))) (hb : big'.length ≤ 63) (m0 : 0 ≤ mix') (m1 : mix' < 2147483629) :
    Aft K H F O H' M F (objs O) := by
  have nf : ∀ b o, F b = some o → b ≠ a ∧ b ≠ l := fun b o e =>
    ⟨fun z => by
      obtain ⟨_, hF, _⟩ := A.liv a _ hOa
      rw [z, hF] at e; exact (nomatch e), fun z => by
      obtain ⟨_, hF, _⟩ := A.liv l _ hOl
      rw [z, hF] at e; cases e⟩
  refine ⟨?_, fun b o e => let ⟨m, e1, _⟩ := objs_of e; ⟨m, e1⟩⟩
  have thr : ∀ b o, H b = some o → ∃ o', H' b = some o' := fun b o e => by
    by_cases z : b = a
    · subst z; exact ⟨_, h1⟩
    · by_cases y : b = l
      · subst y; exact ⟨_, h2⟩
      · exact ⟨o, k b o z y e⟩
  exact { sub := fun b o e => k b o (nf b o e).1 (nf b o e).2 (A.sub b o e), ext0 := Same.refl F, new := fun b o e => .inl e
          frm := fun b o e n => k b o (fun z => n (by rw [z]; exact ⟨a, hOa⟩)) (fun z => n (by rw [z]; exact ⟨a, hOl⟩)) e
          thr := thr
          liv := fun b o e => by
            obtain ⟨m, rfl, e1⟩ := objs_of e
            obtain ⟨⟨x, hx⟩, hF, _⟩ := A.liv b _ e1
            exact ⟨thr b x hx, hF, .inl ⟨m, e1⟩⟩
          slo := fun b o e n => by
            obtain ⟨m, rfl, e1⟩ := objs_of e
            exact absurd rfl (n m)
          tm := fun p l e => absurd e (by simp)
          mu := fun b mo e => by
            by_cases z : b = a
            · subst z
              rw [hM] at e
              cases e
              exact ⟨l, big', cells, c, rest', turn', mix', h1, h2, hc, objs_to hOa, objs_to hOl, hb, hl, m0, m1⟩
            · exact (A.mu b mo e).mono (Same.refl F) fun q u e1 e2 => ⟨k q u (fun y => by rw [y, hOa] at e2; cases e2; exact z rfl) (fun y => by rw [y, hOl] at e2; cases e2; exact z rfl) e1, objs_to e2⟩ }
end
end Px
set_option Elab.async false
set_option linter.all false
set_option maxRecDepth 100000
namespace Px
open PySem PySem.Spec PyProof.Rows L2
section
variable {X : Cx} {W : WX}
def dRetDraw : PTS := fun _ P ρ M => ∃ (big ns : List Int), gt ρ 1 = some (.own (big.map .int)) ∧ gt ρ 0 = some (.val (.scr ns)) ∧ big.length ≤ 63 ∧ ns.length ≤ 63 ∧ ∀ a, M a = none → P.rt (.raw (.ref a)) (updM M a .draw)
theorem ds_retDraw {x0 x1 : Str} {p1 p2 p3 p4 p5 p6 p7 p8 p9 p10 p11 p12 pd pr : Pos} {k1 k2 k3 k4 k5 k6 k7 k8 : Nat} (h0 : X.N[0]? = some x0) (h1 : X.N[1]? = some x1) (v0 : Vis X.env.scope x0) (v1 : Vis X.env.scope x1)
    (d0 : (x0 == ("__debug__" : Str)) = false) (d1 : (x1 == ("__debug__" : Str)) = false) (c0 : (x0 == ("__classdict__" : Str)) = false) (c1 : (x1 == ("__classdict__" : Str)) = false) (hg : Gl X "list") (hm : X.mg "list" = none)
    (he : starEach [.Name x0 p3] X.env = (false, eval (.Name x0 p3) X.env) :: starEach [] X.env := by rfl) (hpl : (backTo p4 (starEach [] X.env)).any (·.1) = false := by rfl) :
    DS X W (.Return (some (.Dict [some (.Constant (.str "large") k1 p1), some (.Constant (.str "cells") k2 p5), some (.Constant (.str "rest") k3 p6), some (.Constant (.str "turn") k4 p7), some (.Constant (.str "mix") k5 p8)]
      [.Name x1 p2, .Call (.Name "list" p9) [.Name x0 p3] [] p4, .Constant (.int 0) k6 p10, .Constant (.int 0) k7 p11, .Constant (.int 7) k8 p12] pd)) pr) dRetDraw := by
  refine ps_imp (ps_ret (pe_disp (pps_cons pe_str (pv 1 h1 v1 d1 c1) (pps_cons pe_str (pe_callTy call_list_of hg hm (by decide +kernel) (pa_cons (pv 0 h0 v0 d0 c0) pa_nil he) (by decide) (by decide) he hpl)
    (pps_cons pe_str pe_int (pps_cons pe_str pe_int (pps_cons pe_str pe_int pps_nil))))) (by rfl) (by rfl) (by simp) (by simp))) fun D σ H hE => hE.el fun g ρ M F O P w A h hw k1 k2 _ _ _ => ?_
  obtain ⟨big, ns, e1, e0, hb, hn, hq⟩ := h
  obtain ⟨v, hv, l, xs, rfl, hl, rl, hO⟩ := A.sl 1 _ e1
  obtain ⟨u, hu, a, rfl, hs⟩ := A.sl 0 _ e0
  intro p hp
  have A1 := A.laid (o := .dK []) hp
  refine ⟨.ref l, hv, .ref a, hu, a, ns.map V.int, rfl, .inl (same_l A1.sub hs), fun c hc => ?_⟩
  have A2 := A1.lay (o := .lst (ns.map V.int)) hc
  have npc : p ≠ c := fun z => by rw [← z, upd_same] at hc; cases hc
  have h2p : (upd (upd H p (.dK [])) c (.lst (ns.map V.int))) p = some (.dK []) := by rw [upd_ne npc, upd_same]
  have f2p : (upd F c (.lst (ns.map V.int))) p = none := by rw [upd_ne npc]; exact A.f0 hp
  refine ⟨h2p, [(.inr "large", .ref l), (.inr "cells", .ref c), (.inr "rest", .int 0), (.inr "turn", .int 0), (.inr "mix", .int 7)], rfl, by simp, ?_⟩
  have em : mergeK [] [((.inr "large" : Key), V.ref l), (.inr "cells", .ref c), (.inr "rest", .int 0), (.inr "turn", .int 0), (.inr "mix", .int 7)] = drawKeys l (.ref c) 0 0 7 := by
    show _ = [((.inr "large" : Key), V.ref l), (.inr "cells", .ref c), (.inr "rest", .int 0), (.inr "turn", .int 0), (.inr "mix", .int 7)]
    unfold mergeK
    simp only [List.foldl]
    rfl
  rw [em]
  have A3 := A2.poke (o := .dK (drawKeys l (.ref c) 0 0 7)) ⟨_, h2p⟩ f2p (A.o0 hp) (A.g0 hp)
  have hM : M p = none := A.m0 hp
  have A4 := A3.drawn e1 hv upd_same (cells := ns) ⟨c, ns.map V.int, rfl, upd_same, RpL.of_ints ns⟩ f2p (A.o0 hp) (A.g0 hp) hM hb hn (by decide) (by decide)
  exact k2 (.ref p) σ _ _ _ _ _ (.raw (.ref p)) A4 (same_new (A.f0 (by
    by_cases z : c = p
    · exact absurd z.symm npc
    · rw [upd_ne z] at hc; exact hc))) rfl (hq p hM)
end
def rdTake (K : PySem.W.Frag) : TS :=
  tSeq (tIfS (tAnd (tTest (tOp rEq (tDGet (tVar 0) (tC (.str "rest"))) (tC (.int 0)))) (tTest (tOp (rNeD K) (tDGet (tVar 0) (tC (.str "large"))) (tLst tNil))))
      (sDPut (tVar 0) (tC (.str "rest")) (tBM K "list" rPopAt (tDGet (tVar 0) (tC (.str "large"))) (tCons (tC (.int 0)) tNil)))
      (tIfS (tTest (tOp rEq (tDGet (tVar 0) (tC (.str "rest"))) (tC (.int 0))))
        (tSeq (sDPut (tVar 0) (tC (.str "turn")) (tOp (rI0 fun i j => .int (i + j)) (tDGet (tVar 0) (tC (.str "turn"))) (tC (.int 1))))
        (tSeq (tFor (iList K (tOp rCat (tLst (tCons (tDGet (tVar 0) (tC (.str "turn"))) tNil)) (tDGet (tVar 0) (tC (.str "cells"))))) (gName 2)
            (sDPut (tVar 0) (tC (.str "mix")) (tOp (rI (fun _ j => 0 < j) fun i j => .int (i % j)) (tCB (fun xs H Q => (∃ i, xs = [.int i] ∧ Q (.int i) H) ∨ ∃ k, xs = [.bl k] ∧ Q (.int (if k then 1 else 0)) H)
              (tCons (tOp (rI0 fun i j => .int (i + j)) (tOp (rI0 fun i j => .int (i + j)) (tOp (rI CMul fun i j => .int (i * j)) (tDGet (tVar 0) (tC (.str "mix"))) (tC (.int 69621))) (tOp (rI CMul fun i j => .int (i * j)) (tVar 2) (tC (.int 48271)))) (tC (.int 12345))) tNil)) (tC (.int 2147483629)))))
          (sDPut (tVar 0) (tC (.str "rest")) (tOp (rI (fun _ j => 0 < j) fun i j => .int (i % j)) (tCB (fun xs H Q => (∃ i, xs = [.int i] ∧ Q (.int i) H) ∨ ∃ k, xs = [.bl k] ∧ Q (.int (if k then 1 else 0)) H)
              (tCons (tOp (rI CPow fun i j => .int (i ^ j.toNat)) (tDGet (tVar 0) (tC (.str "mix"))) (tC (.int 5))) tNil)) (tC (.int 2305843009213693951))))))
        tNext))
  (tSeq (tAsg (tCB (fun xs H Q => ∃ i j, xs = [.int i, .int j] ∧ CDivP i j ∧ ∀ p, H p = none → Q (.ref p) (upd H p (.tup [.int (i / j), .int (i % j)]))) (tCons (tDGet (tVar 0) (tC (.str "rest"))) (tCons (tVar 1) tNil)))
      (gTup K 2 (gCons (gSub (tVar 0) (tC (.str "rest")) rSetD) (gCons (gName 3) gNil))))
    (tRet (tVar 3)))
section
variable {H : Hp} {a l : Addr} {c : V} {r t m : Int}
theorem get_rest (h : H a = some (.dK (drawKeys l c r t m))) : DGet H a (.str "rest") (some (.int r)) := DGet.k (k := (Sum.inr "rest" : Key)) h
theorem get_turn (h : H a = some (.dK (drawKeys l c r t m))) : DGet H a (.str "turn") (some (.int t)) := DGet.k (k := (Sum.inr "turn" : Key)) h
theorem get_mix (h : H a = some (.dK (drawKeys l c r t m))) : DGet H a (.str "mix") (some (.int m)) := DGet.k (k := (Sum.inr "mix" : Key)) h
theorem get_large (h : H a = some (.dK (drawKeys l c r t m))) : DGet H a (.str "large") (some (.ref l)) := DGet.k (k := (Sum.inr "large" : Key)) h
theorem get_cells (h : H a = some (.dK (drawKeys l c r t m))) : DGet H a (.str "cells") (some c) := DGet.k (k := (Sum.inr "cells" : Key)) h
theorem keys_len : (drawKeys l c r t m).length < sizeLine := by
  show 5 < sizeLine
  decide
theorem put_rest (v : Int) (h : H a = some (.dK (drawKeys l c r t m))) : DPut H a (.str "rest") (.int v) (upd H a (.dK (drawKeys l c v t m))) := DPut.k (k := (Sum.inr "rest" : Key)) (v := .int v) h keys_len
theorem put_turn (v : Int) (h : H a = some (.dK (drawKeys l c r t m))) : DPut H a (.str "turn") (.int v) (upd H a (.dK (drawKeys l c r v m))) := DPut.k (k := (Sum.inr "turn" : Key)) (v := .int v) h keys_len
theorem put_mix (v : Int) (h : H a = some (.dK (drawKeys l c r t m))) : DPut H a (.str "mix") (.int v) (upd H a (.dK (drawKeys l c r t v))) := DPut.k (k := (Sum.inr "mix" : Key)) (v := .int v) h keys_len
end
theorem dp_ints {K : PySem.W.Frag} {H : Hp} : ∀ ns : List Int, DpAll K H (ns.map V.int) (ns.map PyData.int)
  | [] => .nil
  | n :: ns => .cons (.int n) (dp_ints ns)
theorem ints_shaped (ns : List Int) : SeqAt.shaped (.list (ns.map PyData.int)) = true := by
  have h1 : ∀ ns : List Int, PyData.canLayAll0 (ns.map PyData.int) = true ∧ PyData.depthAll (ns.map PyData.int) ≤ 0 := by
    intro ns
    induction ns with
    | nil => exact ⟨rfl, Nat.le_refl _⟩
    | cons n ns ih => exact ⟨by show (true && PyData.canLayAll0 (ns.map PyData.int)) = true; rw [ih.1]; rfl, by show max 0 (PyData.depthAll (ns.map PyData.int)) ≤ 0; omega⟩
  unfold SeqAt.shaped
  rw [Bool.and_eq_true_iff]
  exact ⟨(h1 ns).1, decide_eq_true (by show PyData.depthAll (ns.map PyData.int) + 1 ≤ 64; have := (h1 ns).2; omega)⟩
structure DrawSt (H H' : Hp) (a l : Addr) (c : V) (σ : L2.St) (n r t m : Int) (big : List Int) : Prop where
  s : ∃ y z, σ = [some (.ref a), some (.int n), y, z]
  k : ∀ b o, b ≠ a → b ≠ l → H b = some o → H' b = some o
  d : H' a = some (.dK (drawKeys l c r t m))
  b : H' l = some (.lst (big.map V.int))
section
variable {K : PySem.W.Frag} {H H' : Hp} {a l p : Addr} {c : V} {σ : L2.St} {n r t m r' t' m' : Int} {big big' : List Int} {o : HO}
theorem DrawSt.ne (S : DrawSt H H' a l c σ n r t m big) : a ≠ l := fun z => by
  have h1 := S.d
  rw [z, S.b] at h1
  cases h1
theorem DrawSt.new (S : DrawSt H H' a l c σ n r t m big) (hp : H' p = none) : DrawSt H (upd H' p o) a l c σ n r t m big where
  s := S.s
  k := fun b u h1 h2 e => by
    have z := S.k b u h1 h2 e
    rw [upd_ne (fun y => by rw [y, hp] at z; cases z)]
    exact z
  d := by rw [upd_ne (fun y => by have z := S.d; rw [y, hp] at z; cases z)]; exact S.d
  b := by rw [upd_ne (fun y => by have z := S.b; rw [y, hp] at z; cases z)]; exact S.b
theorem DrawSt.put (S : DrawSt H H' a l c σ n r t m big) : DrawSt H (upd H' a (.dK (drawKeys l c r' t' m'))) a l c σ n r' t' m' big where
  s := S.s
  k := fun b u h1 h2 e => by rw [upd_ne h1]; exact S.k b u h1 h2 e
  d := upd_same
  b := by rw [upd_ne S.ne.symm]; exact S.b
theorem take_tail {D : Ends} (S : DrawSt H H' a l c σ n r t m big) (h0 : 0 < n) (h1 : n.natAbs.log2 < 9000) (hq : ∀ H2, DrawSt H H2 a l c [some (.ref a), some (.int n), none, none] n (r / n) t m big → D.rt (.int (r % n)) H2) :
    tSeq (tAsg (tCB (fun xs H Q => ∃ i j, xs = [.int i, .int j] ∧ CDivP i j ∧ ∀ p, H p = none → Q (.ref p) (upd H p (.tup [.int (i / j), .int (i % j)]))) (tCons (tDGet (tVar 0) (tC (.str "rest"))) (tCons (tVar 1) tNil)))
      (gTup K 2 (gCons (gSub (tVar 0) (tC (.str "rest")) rSetD) (gCons (gName 3) gNil)))) (tRet (tVar 3)) D σ H' := by
  obtain ⟨y, z, rfl⟩ := S.s
  refine ⟨.ref a, rfl, a, .int r, rfl, get_rest S.d, .int n, rfl, r, n, rfl, ⟨h0, PyProof.noPylong_of_log2 h1⟩, fun p hp => ?_⟩
  have S2 := S.new (o := .tup [.int (r / n), .int (r % n)]) hp
  refine ⟨p, _, rfl, .inl (.inl upd_same), rfl, .int (r / n), [.int (r % n)], rfl, .ref a, rfl, a, _, rfl, put_rest (r / n) S2.d, .int (r % n), [], rfl, rfl, .int (r % n), rfl, ?_⟩
  have S3 := S2.put (r' := r / n) (t' := t) (m' := m)
  exact hq _ ⟨⟨none, none, rfl⟩, S3.k, S3.d, S3.b⟩
end
end Px
set_option Elab.async false
set_option linter.all false
set_option maxRecDepth 100000
namespace Px
open PySem PySem.Spec PyProof.Rows L2
theorem itT {c : Bool} {A B : Prop} (hc : c = true) (h : A) : if c = true then A else B := by
  rw [if_pos hc]
  exact h
theorem itF {c : Bool} {A B : Prop} (hc : c = false) (h : B) : if c = true then A else B := by
  rw [hc, if_neg Bool.false_ne_true]
  exact h
theorem seq0 {n : Nat} (h : 0 < n) : seqIndex? (0 : Int) n = some 0 := PySem.StrLaws.seqIndex_nonneg (i := 0) (Int.le_refl 0) (by omega)
section
variable {K : PySem.W.Frag} {H H' : Hp} {a l : Addr} {c : V} {σ : L2.St} {n r t m : Int} {big : List Int}
theorem take_mix {D : Ends} {ca : Addr} {cells : List Int} (S : DrawSt H H' a l (.ref ca) σ n r t m big) (hc : ∀ H2, DrawSt H H2 a l (.ref ca) σ n r (t + 1) m big → H2 ca = some (.lst (cells.map V.int))) (hca : ca ≠ a ∧ ca ≠ l) (hl : cells.length ≤ 63) (m0 : 0 ≤ m) (m1 : m < 2147483629)
    (hq : ∀ H2 σ2 r2 t2 m2, 0 ≤ m2 → m2 < 2147483629 → DrawSt H H2 a l (.ref ca) σ2 n r2 t2 m2 big → D.nx σ2 H2) :
    tSeq (sDPut (tVar 0) (tC (.str "turn")) (tOp (rI0 fun i j => .int (i + j)) (tDGet (tVar 0) (tC (.str "turn"))) (tC (.int 1))))
        (tSeq (tFor (iList K (tOp rCat (tLst (tCons (tDGet (tVar 0) (tC (.str "turn"))) tNil)) (tDGet (tVar 0) (tC (.str "cells"))))) (gName 2)
            (sDPut (tVar 0) (tC (.str "mix")) (tOp (rI (fun _ j => 0 < j) fun i j => .int (i % j)) (tCB (fun xs H Q => (∃ i, xs = [.int i] ∧ Q (.int i) H) ∨ ∃ k, xs = [.bl k] ∧ Q (.int (if k then 1 else 0)) H)
              (tCons (tOp (rI0 fun i j => .int (i + j)) (tOp (rI0 fun i j => .int (i + j)) (tOp (rI CMul fun i j => .int (i * j)) (tDGet (tVar 0) (tC (.str "mix"))) (tC (.int 69621))) (tOp (rI CMul fun i j => .int (i * j)) (tVar 2) (tC (.int 48271)))) (tC (.int 12345))) tNil)) (tC (.int 2147483629)))))
          (sDPut (tVar 0) (tC (.str "rest")) (tOp (rI (fun _ j => 0 < j) fun i j => .int (i % j)) (tCB (fun xs H Q => (∃ i, xs = [.int i] ∧ Q (.int i) H) ∨ ∃ k, xs = [.bl k] ∧ Q (.int (if k then 1 else 0)) H)
              (tCons (tOp (rI CPow fun i j => .int (i ^ j.toNat)) (tDGet (tVar 0) (tC (.str "mix"))) (tC (.int 5))) tNil)) (tC (.int 2305843009213693951))))) D σ H' := by
  obtain ⟨y, z, rfl⟩ := S.s
  refine ⟨.ref a, rfl, a, .int t, rfl, get_turn S.d, t, 1, rfl, rfl, .ref a, rfl, a, _, rfl, put_turn (t + 1) S.d, ?_⟩
  have S1 := S.put (r' := r) (t' := t + 1) (m' := m)
  refine ⟨.ref a, rfl, a, .int (t + 1), rfl, get_turn S1.d, by show 1 ≤ sizeLine; decide, fun p hp => ?_⟩
  have S2 := S1.new (o := .lst [.int (t + 1)]) hp
  have h2c := hc _ S2
  refine ⟨.ref a, rfl, a, .ref ca, rfl, get_cells S2.d, p, ca, _, _, rfl, rfl, upd_same, h2c, by rw [List.length_map]; exact line_big (by show 1 + cells.length ≤ 1000000; omega), fun q hq2 => ?_⟩
  have S3 := S2.new (o := .lst ([V.int (t + 1)] ++ cells.map V.int)) hq2
  refine ⟨q, rfl, ⟨_, .inl (.inl upd_same)⟩, for_list (xs := [V.int (t + 1)] ++ cells.map V.int) (fun i σ' H2 => ∃ m', 0 ≤ m' ∧ m' < 2147483629 ∧ DrawSt H H2 a l (.ref ca) σ' n r (t + 1) m' big ∧ H2 q = some (.lst ([V.int (t + 1)] ++ cells.map V.int)))
    ⟨m, m0, m1, S3, upd_same⟩ (fun i σ' H2 _ ⟨m', _, _, _, h⟩ => .inl (.inl h)) (fun i x σ' H2 hx ⟨m', h0, h1, S4, hq4⟩ => ?_) (fun σ' H2 ⟨m', h0, h1, S4, hq4⟩ => ?_)⟩
  · obtain ⟨k, rfl⟩ : ∃ k, x = V.int k := by
      rcases List.mem_append.mp (List.mem_of_getElem? hx) with z | z
      · exact ⟨_, List.mem_singleton.mp z⟩
      · obtain ⟨k, _, e⟩ := List.mem_map.mp z
        exact ⟨k, e.symm⟩
    obtain ⟨y', z', rfl⟩ := S4.s
    refine ⟨.ref a, rfl, a, .int m', rfl, get_mix S4.d, m', 69621, rfl, rfl, .inr ⟨by decide, by decide⟩, .int k, rfl, k, 48271, rfl, rfl, .inr ⟨by decide, by decide⟩, m' * 69621, k * 48271, rfl, rfl, m' * 69621 + k * 48271, 12345, rfl, rfl,
      .inl ⟨m' * 69621 + k * 48271 + 12345, rfl, m' * 69621 + k * 48271 + 12345, 2147483629, rfl, rfl, (show (0 : Int) < 2147483629 by decide), .ref a, rfl, a, _, rfl, put_mix ((m' * 69621 + k * 48271 + 12345) % 2147483629) S4.d, ?_⟩⟩
    refine ⟨(m' * 69621 + k * 48271 + 12345) % 2147483629, Int.emod_nonneg _ (by decide), Int.emod_lt_of_pos _ (by decide), ?_, ?_⟩
    · have S5 := S4.put (r' := r) (t' := t + 1) (m' := (m' * 69621 + k * 48271 + 12345) % 2147483629)
      exact ⟨⟨some (.int k), z', rfl⟩, S5.k, S5.d, S5.b⟩
    · rw [upd_ne (fun z => by have := S4.d; rw [← z, hq4] at this; cases this)]
      exact hq4
  · obtain ⟨y', z', rfl⟩ := S4.s
    refine ⟨.ref a, rfl, a, .int m', rfl, get_mix S4.d, m', 5, rfl, rfl, ⟨by decide, by decide, ?_⟩, .inl ⟨m' ^ (5 : Int).toNat, rfl, m' ^ (5 : Int).toNat, 2305843009213693951, rfl, rfl, (show (0 : Int) < 2305843009213693951 by decide), .ref a, rfl, a, _, rfl, put_rest ((m' ^ (5 : Int).toNat) % 2305843009213693951) S4.d, ?_⟩⟩
    · have e : (2 : Nat) ^ 64 = 18446744073709551616 := by decide
      rw [e]; omega
    · exact hq _ _ _ _ m' h0 h1 S4.put
end
theorem draw_is {K : PySem.W.Frag} {F H : Hp} {O : Own} {a : Addr} (h : MoOk K F H O a .draw) : ∃ (l : Addr) (big cells : List Int) (c : V) (rest turn mix : Int), H a = some (.dK (drawKeys l c rest turn mix)) ∧ H l = some (.lst (big.map V.int)) ∧ Rp K F (.lst (cells.map .int)) c ∧
      O a = some (.obj a) ∧ O l = some (.obj a) ∧ big.length ≤ 63 ∧ cells.length ≤ 63 ∧ 0 ≤ mix ∧ mix < 2147483629 := h
theorem take_run {K : PySem.W.Frag} {vs : List V} {H : Hp} {Q : VK} {E : XK} {N : List Str} (hN : N.length = 4) (h : toSp K 2 sp_take vs H Q E) : rdTake K { nx := fun _ H' => Q .non H', rt := Q } (L2.start N vs) H := by
  obtain ⟨g, F, M, O, ds, q, e, _, A, rp, hsp, hQ, _⟩ := h
  obtain ⟨d, n', rfl, h⟩ := ar2_of hsp
  obtain ⟨a, rfl, hM, h⟩ := asDraw_of h
  obtain ⟨n, rfl, ⟨hn0, hn1⟩, hk⟩ := asI_of h
  obtain ⟨v1, r1, rfl, hv1, v2, r2, rfl, hv2, hr2⟩ := rp
  have hr2 : r2 = [] := hr2
  have hv1 : v1 = .ref a := hv1
  have hv2 : v2 = .int n := hv2
  subst hr2 hv1 hv2
  obtain ⟨l, big, cells, c, rest, turn, mix, h1, h2, hc, o1, o2, hb, hl, m0, m1⟩ := draw_is (A.mu a _ hM)
  obtain ⟨ca, cxs, rfl, hF, rc⟩ := id hc
  have ex := rc.ints
  subst ex
  have nf : ∀ b o, F b = some o → b ≠ a ∧ b ≠ l := fun b o e => by
    constructor
    · intro z
      obtain ⟨_, hF, _⟩ := A.liv a _ o1
      rw [z, hF] at e
      cases e
    · intro z
      obtain ⟨_, hF, _⟩ := A.liv l _ o2
      rw [z, hF] at e
      cases e
  have es : L2.start N [V.ref a, V.int n] = [some (.ref a), some (.int n), none, none] := by
    unfold L2.start
    rw [hN]; rfl
  rw [es]
  have S : DrawSt H H a l (.ref ca) [some (.ref a), some (.int n), none, none] n rest turn mix big := ⟨⟨none, none, rfl⟩, fun _ _ _ _ e => e, h1, h2⟩
  have fin : ∀ {H2 : Hp} {σ2 : L2.St} {big2 : List Int} {r2 t2 m2 : Int}, big2.length ≤ 63 → 0 ≤ m2 → m2 < 2147483629 → DrawSt H H2 a l (.ref ca) σ2 n r2 t2 m2 big2 →
      tSeq (tAsg (tCB (fun xs H Q => ∃ i j, xs = [.int i, .int j] ∧ CDivP i j ∧ ∀ p, H p = none → Q (.ref p) (upd H p (.tup [.int (i / j), .int (i % j)]))) (tCons (tDGet (tVar 0) (tC (.str "rest"))) (tCons (tVar 1) tNil)))
        (gTup K 2 (gCons (gSub (tVar 0) (tC (.str "rest")) rSetD) (gCons (gName 3) gNil)))) (tRet (tVar 3)) { nx := fun _ H' => Q .non H', rt := Q } σ2 H2 := fun {H2 σ2 big2 r2 t2 m2} hb2 q0 q1 S2 =>
    take_tail S2 hn0 hn1 fun H3 S3 => hQ (.int (r2 % n)) H3 F (objs O) M (.int (r2 % n)) (draw_after A hM o1 o2 hc hl S3.k S3.d S3.b hb2 q0 q1) rfl (hk (r2 % n) (Int.emod_nonneg _ (by omega)) (Int.emod_lt_of_pos _ hn0))
  have mixed : ∀ {H2 : Hp} {σ2 : L2.St}, DrawSt H H2 a l (.ref ca) σ2 n rest turn mix big → _ := fun {H2 σ2} S2 =>
    take_mix (K := K) (D := { nx := tSeq (tAsg (tCB (fun xs H Q => ∃ i j, xs = [.int i, .int j] ∧ CDivP i j ∧ ∀ p, H p = none → Q (.ref p) (upd H p (.tup [.int (i / j), .int (i % j)]))) (tCons (tDGet (tVar 0) (tC (.str "rest"))) (tCons (tVar 1) tNil)))
        (gTup K 2 (gCons (gSub (tVar 0) (tC (.str "rest")) rSetD) (gCons (gName 3) gNil)))) (tRet (tVar 3)) { nx := fun _ H' => Q .non H', rt := Q }, rt := Q }) S2
      (fun H3 S3 => S3.k _ _ (nf _ _ hF).1 (nf _ _ hF).2 (A.sub _ _ hF)) (nf _ _ hF) hl m0 m1 fun H3 σ3 r3 t3 m3 q0 q1 S3 => fin hb q0 q1 S3
  refine ⟨.ref a, rfl, a, .int rest, rfl, get_rest h1, rfl, _, rfl, ?_⟩
  by_cases hr : rest = 0
  · refine itT (decide_eq_true (by rw [hr])) ?_
    refine ⟨.ref a, rfl, a, .ref l, rfl, get_large h1, Nat.zero_le _, fun p hp => ?_⟩
    have S2 := S.new (o := .lst []) hp
    refine ⟨.list (big.map PyData.int), .list [], .lst (.inl (.inl S2.b)) (dp_ints big), .lst (.inl (.inl upd_same)) .nil, ints_shaped big, ints_shaped [], _, rfl, ?_⟩
    cases big with
    | nil =>
      refine iteF ?_
      exact ⟨.ref a, rfl, a, .int rest, rfl, get_rest S2.d, rfl, _, rfl, itT (decide_eq_true (by rw [hr])) (mixed S2)⟩
    | cons b0 br =>
      refine iteT ?_
      refine ⟨.ref a, rfl, a, .ref l, rfl, get_large S2.d, .inl ⟨rfl, _, .inl (.inl S2.b)⟩, l, _, 0, 0, .int b0, rfl, rfl, S2.b, by decide, by decide, seq0 (by simp), rfl, .ref a, rfl, a,
        upd (upd (upd H p (.lst [])) l (.lst (br.map V.int))) a (.dK (drawKeys l (.ref ca) b0 turn mix)), rfl, ?_, ?_⟩
      · exact put_rest b0 (by
          show (upd (upd H p (.lst [])) l (.lst (br.map V.int))) a = _
          rw [upd_ne S2.ne]; exact S2.d)
      · refine fin (big2 := br) (by have := hb; rw [List.length_cons] at this; omega) m0 m1 (r2 := b0) (t2 := turn) (m2 := mix) ⟨⟨none, none, rfl⟩, fun b o z1 z2 e => ?_, upd_same, ?_⟩
        · rw [upd_ne z1, upd_ne z2]; exact S2.k b o z1 z2 e
        · rw [upd_ne S2.ne.symm, upd_same]
  · refine itF (decide_eq_false fun z => hr (V.int.inj z)) ?_
    refine iteF ?_
    refine ⟨.ref a, rfl, a, .int rest, rfl, get_rest h1, rfl, _, rfl, ?_⟩
    exact itF (decide_eq_false fun z => hr (V.int.inj z)) (fin hb m0 m1 S)
end Px
set_option Elab.async false
set_option linter.all false
set_option maxRecDepth 100000
namespace Px
open PySem PySem.Spec PyProof.Rows L2
def sp_law : PSp := fun ds M q _ => ar1 ds fun d => match d with | .scr ns => ns.length ≤ 63 ∧ q (.bl true) M | _ => False
def trackS (a : Addr) (o : Obj) (xs : List V) : Hp := fun b => if b = a then some (.frz o (.lst xs)) else none
theorem trackS_at {a : Addr} {o : Obj} {xs : List V} : trackS a o xs a = some (.frz o (.lst xs)) := if_pos rfl
theorem trackS_ne {a b : Addr} {o : Obj} {xs : List V} (h : b ≠ a) : trackS a o xs b = none := if_neg h
section
variable {P : Program} {w : World} {K : PySem.W.Frag} {mg mb : Str → Option Value} {k : Nat} {fa a : Addr} {fd : FuncData} {x : Str} {s₁ : Shared} {vs : List Value} {ns : List Int}
abbrev GoodEnd (s₁ : Shared) : Result → Shared → Prop := fun r s' => r = .ok (.ret (.bool true)) ∧ OldK s₁.heap s'.heap ∧ s'.os = s₁.os ∧ AllBare s'.gens
theorem law_from (H : Hp) (KX : K.In s₁.heap) (hns : s₁.heap.Ns mainGlobals mg) (hb : s₁.heap.Ns builtinsNs mb) (hbb : ∀ x : Str, x ≠ "__name__" → mb x = bootBuiltins x) (hlim : s₁.heap.NoLimit) (hg : s₁.gens = #[])
    (ha : s₁.heap.get? a = some { cls := .type "list", data := .seq vs.toArray }) (hl : ns.length ≤ 63) (hr : Room k callerA) (G : ∀ base : Heap, K.In base → base.Ns mainGlobals mg → FnG P w K mg base k fa fd [x] (toSp K 1 sp_law))
    (hbind : ∀ (s : Shared) (u : Value), BindsTo s fd ⟨[u], []⟩ [(x, u)]) (hO : ∀ b, H b = none ∨ ∃ o xs, H b = some (.frz o (.lst xs))) (hS : SqL K H a (ns.map V.int)) (hok : HOk P w H s₁.heap) (hA : ∀ b, H b ≠ none → b = a) (hK : H a ≠ none → K.lookup a = none) :
    codeAny (model P w) callerA (.call (.ref fa) ⟨[.ref a], []⟩) (GoodEnd s₁) s₁ := by
  have free_dict : ∀ {b : Addr} {u : Obj} {es : Array DictEntry} {ep : Nat}, s₁.heap.get? b = some u → u.data = .dict es ep → H b = none := by
    intro b u es ep e d
    by_cases z : H b = none
    · exact z
    · have y := hA b z
      rw [y, ha] at e
      cases e
      exact absurd (show Data.seq vs.toArray _ = Data.dict es ep from d) (fun z => by cases z)
  have ns_of : ∀ {b : Addr} {m : Str → Option Value}, s₁.heap.Ns b m → (hidT s₁.heap H).Ns b m := by
    rintro b m ⟨u, es, ep, e, d, r⟩
    exact ⟨u, es, ep, hidT_get e (free_dict e d), d, r⟩
  have kb : K.In (hidT s₁.heap H) := by
    intro b u e
    refine hidT_get (KX b u e) ?_
    by_cases z : H b = none
    · exact z
    · have y := hA b z
      rw [y] at e z
      rw [hK z] at e
      cases e
  have lim2 : (hidT s₁.heap H).NoLimit := by
    obtain ⟨mc, q1, q2⟩ := hlim
    exact ⟨mc, ns_of q1, q2⟩
  have md : Mod K mg (hidT s₁.heap H) := ⟨kb, ns_of hns, ⟨mb, ns_of hb, hbb⟩, lim2⟩
  have nofr : ∀ b ∈ frs ([] : List Env), H b = none := fun b hm => nomatch hm
  have e0 : Env0 P w K mg (hidT s₁.heap H) callerA [] s₁ H := { frames := rfl, mod := md, bs := fun b u e => of_hidT e, bsz := Nat.le_of_eq (hidT_size _ _), funs := trivial, frf := nofr, hok := hok, bare := .of_eq hg }
  have prom : toSp K 1 sp_law [.ref a] H (fun v _ => v = .bl true) (fun _ _ _ => False) := by
    refine ⟨⟨H, H, fun _ => False, []⟩, H, fun _ => none, fun _ => none, [.scr ns], fun d _ => d = .bl true, fun _ _ _ => False, rfl, ?_, ⟨.ref a, [], rfl, ⟨a, rfl, hS⟩, rfl⟩, ⟨hl, rfl⟩, fun v H' F' O' M' d _ r e => ?_, fun _ _ _ _ _ _ _ _ _ z => z⟩
    · exact { sub := fun _ _ e => e, ext0 := fun _ _ e => e, new := fun _ _ e => .inl e, frm := fun _ _ e _ => e, thr := fun _ u e => ⟨u, e⟩, liv := fun _ _ e => (nomatch e), slo := fun _ _ e => (nomatch e), tm := fun _ _ e => (nomatch e), mu := fun _ _ e => (nomatch e) }
    · have e' : d = .bl true := e
      subst e'
      exact r
  refine codeAny_mono ((G _ kb (ns_of hns)).run callerA [] s₁ H ⟨[.ref a], []⟩ [.ref a] [.ref a] _ _ hr rfl e0 (hbind s₁ (.ref a)) (.cons rfl .nil) prom) ?_
  intro r s' h
  cases r with
  | error e =>
    obtain ⟨_, _, _, _, _, _, _, _, _, _, _, _, z⟩ := h
    exact z.elim
  | ok fl =>
    cases fl with
    | ret u =>
      obtain ⟨v, H', h1, h2, un, hok', rv, q⟩ := h
      have q' : v = .bl true := q
      subst q'
      have eu : u = Value.bool true := rv
      subst eu
      refine ⟨rfl, OldK.of_keep fun b u e => ?_, h1, h2⟩
      rcases hO b with z | ⟨ob, xs, z⟩
      · exact un.keep b u e z (fun y => nomatch y) (fun y => nomatch y)
      · obtain ⟨e1, _⟩ := hok b _ z
        obtain ⟨e2, _⟩ := hok' b _ (un.frzs b ob _ z)
        rw [e] at e1
        cases e1
        exact e2
    | next => exact h.elim
    | brk => exact h.elim
    | cont => exact h.elim
theorem law_end (KX : K.In s₁.heap) (hns : s₁.heap.Ns mainGlobals mg) (hb : s₁.heap.Ns builtinsNs mb) (hbb : ∀ x : Str, x ≠ "__name__" → mb x = bootBuiltins x) (hlim : s₁.heap.NoLimit) (hg : s₁.gens = #[])
    (ha : s₁.heap.get? a = some { cls := .type "list", data := .seq vs.toArray }) (hi : IntsAre vs ns) (hl : ns.length ≤ 63) (hr : Room k callerA) (G : ∀ base : Heap, K.In base → base.Ns mainGlobals mg → FnG P w K mg base k fa fd [x] (toSp K 1 sp_law))
    (hbind : ∀ (s : Shared) (u : Value), BindsTo s fd ⟨[u], []⟩ [(x, u)]) : codeAny (model P w) callerA (.call (.ref fa) ⟨[.ref a], []⟩) (GoodEnd s₁) s₁ := by
  have rv := vals_ints hi
  have hz : ns.length ≤ sizeLine := Nat.le_trans hl (by decide)
  cases hk : K.lookup a with
  | some o =>
    have e := KX a o hk
    rw [ha] at e
    cases e
    exact law_from (fun _ => none) KX hns hb hbb hlim hg ha hl hr G hbind (fun _ => .inl rfl) (.inr ⟨_, vs.toArray, _, hk, rfl, rfl, rfl, by rw [List.size_toArray, ← hi.length] at *; simpa using hz, by simpa using rv⟩) (fun _ _ z => nomatch z) (fun _ z => absurd rfl z) (fun z => absurd rfl z)
  | none =>
    refine law_from (trackS a { cls := .type "list", data := .seq vs.toArray } (ns.map V.int)) KX hns hb hbb hlim hg ha hl hr G hbind (fun b => ?_) (.inl (.inr ⟨_, trackS_at⟩)) (fun b u z => ?_) (fun b z => ?_) (fun _ => hk)
    · by_cases y : b = a
      · exact .inr ⟨_, _, by rw [y]; exact trackS_at⟩
      · exact .inl (trackS_ne y)
    · by_cases y : b = a
      · subst y
        rw [trackS_at] at z
        cases z
        exact ⟨ha, by rw [List.length_map]; exact hz, vs, _, rv, ha⟩
      · rw [trackS_ne y] at z
        cases z
    · by_cases y : b = a
      · exact y
      · exact absurd (trackS_ne y) z
end
theorem walk_g {l : PySem.W.OpenLaw} {k : Nat} {q : Program} {loose : List Str} {XP : (Str → Option Value) → Heap → Prop} {YP : World → Heap → Prop} {d : DefRec} {K : Params → PySem.W.Frag} {x : Str} (hn : l.most = some 63) (hdf : d.params.defaults = []) (hr : Room k callerA)
    (hY : ∀ (w : World) (h : Heap), YP w h → (K w.params).In h)
    (G : ∀ (w : World) (mg : Str → Option Value) (fa : Addr) (h : Heap), (K w.params).In h → h.Ns mainGlobals mg → mg d.name = some (.ref fa) →
      ∃ fd : FuncData, (∀ (s : Shared) (u : Value), BindsTo s fd ⟨[u], []⟩ [(x, u)]) ∧ ∀ base : Heap, (K w.params).In base → base.Ns mainGlobals mg → FnG l.prog w (K w.params) mg base k fa fd [x] (toSp (K w.params) 1 sp_law)) :
    PySem.W.WalkO q loose XP YP l.row.toRowW d [] (fun f vs => PySem.call f vs) := by
  refine Att.attach_call hn hdf fun w s₀ s₁ mg mb fa o pm cd doc a vs ns G0 Y ho hd hcd hmg hobj hints hlen hg => ?_
  obtain ⟨fd, hbd, hF⟩ := G w mg fa _ (hY w _ Y) G0.T.g hmg
  exact law_end (hY w _ Y) G0.T.g G0.T.b G0.T.builtins G0.T.nolimit hg hobj hints hlen hr hF hbd
end Px
set_option Elab.async false
set_option linter.all false
set_option maxRecDepth 100000
namespace Px
open PySem PySem.Spec PyProof.Rows L2
theorem ar1_len {ds : List D} {f : D → Prop} (h : ar1 ds f) : ds.length = 1 := by obtain ⟨_, rfl, _⟩ := ar1_of h; rfl
theorem ar2_len {ds : List D} {f : D → D → Prop} (h : ar2 ds f) : ds.length = 2 := by obtain ⟨_, _, rfl, _⟩ := ar2_of h; rfl
theorem ar3_len {ds : List D} {f : D → D → D → Prop} (h : ar3 ds f) : ds.length = 3 := by obtain ⟨_, _, _, rfl, _⟩ := ar3_of h; rfl
theorem ar4_len {ds : List D} {f : D → D → D → D → Prop} (h : ar4 ds f) : ds.length = 4 := by obtain ⟨_, _, _, _, rfl, _⟩ := ar4_of h; rfl
structure DefT (K : PySem.W.Frag) (mg : Str → Option Value) (x : Str) (stm : Stmt) (ps : List Str) (a : Addr) (fd : FuncData) : Prop where
  f : L2.Fun K x x stm a fd
  b : Binds K fd ps []
  g : mg x = some (.ref a)
theorem dg0 {X : Cx} {k : Nat} {x : Str} {p p2 p3 : Pos} {j : Nat} (hr : Room k X.A) (s : Str) (hN : X.N[0]? = some x := by rfl) (hv : Vis X.env.scope x := by first | exact Or.inl rfl | exact Or.inr (Or.inl rfl) | exact Or.inr (Or.inr rfl)) (hd : (x == ("__debug__" : Str)) = false := by decide)
    (hcd : (x == ("__classdict__" : Str)) = false := by decide) : PE X (.Subscript (.Name x p) (.Constant (.str s) j p2) p3) (tDGet (tVar 0) (tC (.str s))) := pe_dget (hu_of hr) (pv 0 hN hv hd hcd) pe_str (by intro _ _; rfl)
theorem de_gintE {X : Cx} {W : WX} {pos : Pos} {x : Str} {i : Int} (hg : Gl X x) (hm : ∃ t, X.mg x = some (.int i t)) (hd : (x == ("__debug__" : Str)) = false := by decide) : DE X W (.Name x pos) (dC (.int i)) := hm.elim fun _ h => de_gint hg h hd
theorem forR_inv {gd : PTG} {pb : PTS} {w : PWi} {P : PEnds} (I : Rho → Mm → Prop) : ∀ (ds : List D), (∀ d ∈ ds, ∀ F : Rho → Mm → Prop, (∀ ρ M, I ρ M → F ρ M) → ∀ ρ M, I ρ M → gd d ρ fun ρ' => pb w { P with nx := F, ct := F, bk := P.nx } ρ' M) →
    (∀ ρ M, I ρ M → P.nx ρ M) → ∀ ρ M, I ρ M → forR gd pb w ds P ρ M
  | [], _, he, ρ, M, h => he ρ M h
  | d :: ds, hb, he, ρ, M, h => hb d List.mem_cons_self _ (forR_inv I ds (fun d' hd' => hb d' (List.mem_cons_of_mem _ hd')) he) ρ M h
theorem updM_same {M : Mm} {a : Addr} {mo : Mo} : updM M a mo a = some mo := if_pos rfl
theorem updM_le {M : Mm} {a : Addr} {mo : Mo} (h : M a = none) : MLe M (updM M a mo) := fun b m e => by
  show (if b = a then some mo else M b) = some m
  rw [if_neg (fun z => by rw [z, h] at e; exact nomatch e)]
  exact e
def rd_begin : PTS := (dSeq (dSetO 1 (dComp [2] (iL (dVar 0)) (gNm 2) (dTst (dOp fGe (dB1 fAbs (dVar 2)) (dOp fPow (dC (.int 10)) (dC (.int 18))))) (dB1 fAbs (dVar 2)))) dRetDraw)
theorem comp_begin {w : List Nat} {ρ : Rho} {M : Mm} {q : List D → Mm → Prop} (hρ : ∃ x y z, ρ = [x, y, z]) : ∀ (ns : List Int) (acc : List Int), acc.length + ns.length ≤ 63 → (∀ l : List Int, l.length ≤ 63 → q (l.map .int) M) →
    compR (gNm 2) (dTst (dOp fGe (dB1 fAbs (dVar 2)) (dOp fPow (dC (.int 10)) (dC (.int 18))))) (dB1 fAbs (dVar 2)) ρ (ns.map .int) (acc.map .int) M q
  | [], acc, h, k => k acc (by simpa using h)
  | n :: ns, acc, h, k => by
    obtain ⟨x, y, z, rfl⟩ := hρ
    have hl : acc.length + ns.length + 1 ≤ 63 := by
      have e : acc.length + (ns.length + 1) ≤ 63 := h
      omega
    refine ⟨⟨by decide, by decide, by decide⟩, ?_⟩
    show if decide ((10 : Int) ^ (18 : Int).toNat ≤ if n < 0 then -n else n) = true then _ else _
    by_cases c : (10 : Int) ^ (18 : Int).toNat ≤ if n < 0 then -n else n
    · refine itT (decide_eq_true c) ⟨?_, ?_⟩
      · rw [List.length_map]; omega
      · have e := comp_begin (w := w) (ρ := [x, y, z]) (M := M) (q := q) ⟨x, y, z, rfl⟩ ns (acc ++ [if n < 0 then -n else n]) (by rw [List.length_append, List.length_singleton]; omega) k
        rw [List.map_append] at e
        exact e
    · exact itF (decide_eq_false c) (comp_begin (w := w) ⟨x, y, z, rfl⟩ ns acc (by omega) k)
theorem sh_begin : Shows sp_begin 3 rd_begin := by
  intro ds M q e h
  obtain ⟨d, rfl, h⟩ := ar1_of h
  obtain ⟨ns, rfl, hn, hq⟩ : ∃ ns, d = .scr ns ∧ ns.length ≤ 63 ∧ ∀ a, M a = none → q (.raw (.ref a)) (updM M a .draw) := by
    cases d with
    | scr ns => exact ⟨ns, rfl, h⟩
    | _ => exact (show False from h).elim
  refine ⟨rfl, comp_begin (w := []) ⟨_, _, _, rfl⟩ ns [] (by simpa using hn) fun l hl => ?_⟩
  exact ⟨l, ns, rfl, rfl, hl, hn, fun a ha => ⟨_, MLe.refl _, hq a ha⟩⟩
def sp_pick : PSp := fun ds M q _ => ar2 ds fun d l => asL l fun l => asDraw d M ((0 < l.length ∧ l.length ≤ 100000) ∧ ∀ x ∈ l, q x M)
def rd_pick : PTS := (dRet (dOp fIx (dVar 1) (dCall sp_take [] (dCons (dVar 0) (dCons (dB1 fLen (dVar 1)) dNil)))))
theorem log_small {n : Int} (h0 : 0 ≤ n) (h : n ≤ 2 ^ 4000) : n.natAbs.log2 < 9000 := by
  have e : n.natAbs ≤ 2 ^ 4000 := by omega
  exact PySem.Flt.log2_lt_of (by decide) (Nat.lt_of_le_of_lt e (Nat.pow_lt_pow_right (by decide) (by decide)))
theorem sh_pick : Shows sp_pick 2 rd_pick := by
  intro ds M q e h
  obtain ⟨d, x, rfl, h⟩ := ar2_of h
  obtain ⟨l, rfl, h⟩ := asL_of h
  obtain ⟨a, rfl, hM, ⟨h0, h1⟩, hq⟩ := asDraw_of h
  refine ⟨hM, ⟨by omega, log_small (by omega) ?_⟩, fun k k0 k1 => ?_⟩
  · have : (100000 : Int) ≤ 2 ^ 4000 := by decide
    omega
  · obtain ⟨j, rfl⟩ : ∃ j : Nat, k = j := ⟨k.toNat, by omega⟩
    have hj : j < l.length := by omega
    exact ⟨l[j], atI_nat (List.getElem?_eq_getElem hj), M, MLe.refl M, hq _ (List.getElem_mem hj)⟩
end Px
set_option Elab.async false
set_option linter.all false
set_option maxRecDepth 100000
namespace Px
open PySem PySem.Spec PyProof.Rows L2
def dNeverS : PTS := fun _ _ _ _ => False
section
variable {X : Cx} {W : WX} {e : Expr} {st1 : Stmt}
theorem ds_never : DS X W st1 dNeverS := ⟨fun _ _ _ _ _ _ ⟨_, _, _, _, _, _, _, _, z, _⟩ => z.elim⟩
end
def fNeS : F2
  | .str a, .str b, k => k (.bl (!decide (a = b)))
  | _, _, _ => False
section
variable {X : Cx} {W : WX} {K : PySem.W.Frag} {a b : Expr} {pa pb : PTE} {pos : Pos}
theorem opf_neS : OpF K rNe fNeS := by
  intro g σ H ρ M F O x y v u k Q A rx ry h c
  unfold fNeS at h
  split at h
  · rename_i a b
    rw [rx.str, ry.str]
    refine ⟨rfl, c (.bl (!decide (a = b))) _ H F O A (Same.refl F) ?_ h⟩
    show Rp K F (.bl (!decide (a = b))) (.bl (!decide (V.str a = V.str b)))
    by_cases z : a = b
    · subst z; simp; rfl
    · rw [decide_eq_false z, decide_eq_false (fun y => z (V.str.inj y))]; rfl
  · exact h.elim
theorem dt_neS (ha : DO X W a pa) (hb : DO X W b pb) : DT X W (.Compare a [.NotEq] [b] pos) (dTst (dOp fNeS pa pb)) := dt_cmp op_ne opf_neS ha hb (nomark _)
end
def showOk (d : PyData) : Prop := d.showable = true ∧ d.shown.length ≤ 16777216
def rRepr (K : PySem.W.Frag) : List V → Hp → VK → Prop := fun xs H Q => ∃ x d, xs = [x] ∧ Dp K H x d ∧ showOk d ∧ d.depth + 1 ≤ 64 ∧ d.hasDict = false ∧ Q (.str d.shown) H
section
variable {X : Cx} {W : WX} {K : PySem.W.Frag} {a : Expr} {pa : PTE} {p pos : Pos}
theorem call_reprD (hG : X.A.guards = some []) (hu : X.A.units + 64 < cLine) : CallR X (.builtin "repr") (rRepr X.K) := by
  intro pins s σ H xs us Q I r h
  obtain ⟨x, d, rfl, hd, ⟨h1, h2⟩, h3, h4, q⟩ := h
  obtain ⟨u, rfl, ru⟩ := L2.Vals.one r
  obtain ⟨as, rd⟩ := Dp.reads I d x u hd ru
  have hz : d.shown.length ≤ sizeLine := h2
  have fin : ∀ (a : Addr), u = .ref a → wpAny (model X.prog X.w) X.A (call (.builtin "repr") [u]) (EP X pins σ Q) X.xe s := fun a eu => by
    subst eu
    exact repr_of_reads' rd h1 (PyData.noDict_hsm h4) hG (by omega) (fun _ _ e => e) (fun h' t tk hk => ⟨.str d.shown, H, I.kept (t' := tk) hk, ⟨t, rfl⟩, q⟩) hz
  cases hd with
  | non =>
    cases ru
    exact PySem.P.repr_of_none ⟨.str _, H, I.tok _, ⟨_, rfl⟩, q⟩
  | bl b =>
    cases ru
    refine PySem.P.repr_of_bool ⟨.str (PyData.shown (.bool b)), H, I.tok _, ⟨s.toks, ?_⟩, q⟩
    simp only [PyData.shown]
  | int i =>
    obtain ⟨t, rfl⟩ := ru
    exact PySem.P.repr_of_int (by simpa [PyData.showable] using h1) ⟨.str (PyData.shown (.int i)), H, I.tok _, ⟨s.toks, by simp only [PyData.shown]⟩, q⟩
  | str x =>
    obtain ⟨t, rfl⟩ := ru
    exact PySem.P.repr_of_str ⟨.str (PyData.shown (.str x)), H, I.tok _, ⟨s.toks, by simp only [PyData.shown]⟩, q⟩ (by simpa [PyData.shown] using hz)
  | lst h _ => exact fin _ ru
  | tup h _ => exact fin _ ru
def fRepr : F1 := fun x k => okD 50 x = true ∧ showOk (toPy x) ∧ k (.str (toPy x).shown)
theorem bf_repr : BF1 K (rRepr K) fRepr := by
  intro g σ H ρ M F O x v k Q A rx h c
  obtain ⟨h1, h2, hk⟩ := h
  have px := okP_of _ _ h1
  obtain ⟨y1, y2⟩ := py_ok 50 x px
  exact ⟨v, _, rfl, vw_dp A px rx, h2, by omega, PyData.hasDict_of_canLay _ y1, c (.str (toPy x).shown) _ H F O A (Same.refl F) rfl hk⟩
theorem de_repr (hG : X.A.guards = some []) (hu : X.A.units + 64 < cLine) (hg : Gl X "repr") (hm : X.mg "repr" = none) (ha : DO X W a pa) (he : starEach [a] X.env = (false, eval a X.env) :: starEach [] X.env := by rfl) (hpl : (backTo pos (starEach [] X.env)).any (·.1) = false := by rfl) :
    DE X W (.Call (.Name "repr" p) [a] [] pos) (dB1 fRepr pa) := de_b1 (call_reprD hG hu) bf_repr hg hm (by decide +kernel) ha (by decide) (by decide) he hpl
end
def appR (ρ : Rho) (i : Nat) (d : D) (k : Rho → Prop) : Prop := match gt ρ i with | some (.own l) => l.length < 1000000 ∧ k (st ρ i (.own (l ++ [d]))) | _ => False
theorem appR_of {ρ : Rho} {i : Nat} {d : D} {k : Rho → Prop} (h : appR ρ i d k) : ∃ l, gt ρ i = some (.own l) ∧ l.length < 1000000 ∧ k (st ρ i (.own (l ++ [d]))) := by
  unfold appR at h
  split at h
  · exact ⟨_, by assumption, h⟩
  · exact h.elim
def isOwn (ρ : Rho) (i : Nat) : Prop := match gt ρ i with | some (.own _) => True | _ => False
theorem isOwn_of {ρ : Rho} {i : Nat} (h : isOwn ρ i) : ∃ l, gt ρ i = some (.own l) := by
  unfold isOwn at h
  split at h
  · exact ⟨_, by assumption⟩
  · exact h.elim
def dApp (i : Nat) (pe : PTE) : PTS := fun w P ρ M => isOwn ρ i ∧ pe w ρ M fun d M' => appR ρ i d fun ρ' => P.nx ρ' M'
section
variable {X : Cx} {W : WX} {e : Expr} {pe : PTE} {pos p1 p2 p3 : Pos}
theorem ds_app (i : Nat) {x : Str} (he : DE X W e pe) (hN : X.N[i]? = some x := by rfl) (hv : Vis X.env.scope x := by first | exact Or.inl rfl | exact Or.inr (Or.inl rfl) | exact Or.inr (Or.inr rfl)) (hd : (x == ("__debug__" : Str)) = false := by decide)
    (hcd : (x == ("__classdict__" : Str)) = false := by decide) (hs : starEach [e] X.env = (false, eval e X.env) :: starEach [] X.env := by rfl)
    (hbase : attributeBase (.Name x p1) "append" X.env (eval (.Name x p1) X.env) = eval (.Name x p1) X.env := by rfl)
    (hfew : ((backTo p3 (starEach [e] X.env)).all (fun x => !x.1) && (backToKw p3 (keywordEach [] X.env)).all (fun x => x.1.isSome)
      && decide ([e].length + ([] : List Keyword).length + (if ([] : List Keyword).isEmpty then 0 else 1) < 30)) = true := by rfl)
    (hline : (p2.endLine == p3.line) = true := by rfl) (hplain : (backTo p3 (starEach [] X.env)).any (·.1) = false := by rfl) :
    DS X W (.Expr (.Call (.Attribute (.Name x p1) "append" p2) [e] [] p3) pos) (dApp i pe) :=
  ps_imp (ps_expr (pe_bm PySem.F.plainAttrs_list PySem.F.slot_list_append PySem.F.type_list_append mt_append (pv i hN hv hd hcd) (pa_cons he pa_nil hs) hbase hfew hline hs hplain)) fun D σ H hE => hE.el fun g ρ M F O P w A ⟨h0, h⟩ hw k1 _ _ _ _ => by
    obtain ⟨l0, e0⟩ := isOwn_of h0
    obtain ⟨v, hv', l, xs, rfl, hl, rl, hO⟩ := A.sl i _ e0
    refine ⟨.ref l, hv', .inl ⟨rfl, xs, .inl (.inl hl)⟩, g, ρ, M, F, O, _, w, A, h, hw, fun u H1 F1 O1 M1 d A1 s1 r1 q1 => ?_⟩
    obtain ⟨l1, e1, hz, q2⟩ := appR_of q1
    obtain ⟨v2, hv2, l2, ys, ev, hl2, rl2, hO2⟩ := A1.sl i _ e1
    rw [hv'] at hv2
    cases hv2
    cases ev
    refine ⟨l, ys, u, rfl, rfl, hl2, by rw [← rl2.len]; exact line_lt hz, ?_⟩
    exact k1 _ _ _ _ F1 O1 (A1.chg (xs := ys) e1 hv' hO2 (rl2.app (show RpL X.K F1 [d] [u] from ⟨u, [], rfl, r1, rfl⟩))) s1 q2
end
end Px
set_option Elab.async false
set_option linter.all false
set_option maxRecDepth 100000
namespace PySem
open Sem (wp)
set_option maxHeartbeats 1000000 in
theorem px_meets_enum1 {v : Value} {o : Obj} {H : Heap → Prop} (B : Begins v o H) :
    Meets (Builtin.«enumerate.__new__» ⟨[.type "enumerate", v], []⟩) (fun _ R s => H s.heap ∧
      R (.ok (.ret (.ref (s.heap.push o).objs.size))) { s with heap := (s.heap.push o).push { cls := .type "enumerate", data := .fields #[.none, .bool false, .ref s.heap.objs.size, rawInt 0, .none, .none] } }) :=
  .of_wp fun prog w A R s h => by
    obtain ⟨hp, g, d, tk, os⟩ := s; obtain ⟨h1, h⟩ := h
    have hsub := sub_enumerate
    have q1 : ∀ {A' : Around} {E : Value → Shared → Prop} {Q : Value → Shared → Prop}, Q (.ref hp.objs.size) ⟨hp.push o, g, d, tk, os⟩ → wpAny (model prog w) A' (pyIter v) Q E ⟨hp, g, d, tk, os⟩ :=
      fun q => B.iter prog w _ _ ⟨hp, g, d, tk, os⟩ _ h1 q
    wp_walk using q1
    refine wpAny_stack_any fun st => wpAny_pure ?_
    split
    · rename_i c _ _ _ _ _
      cases (c == Value.type "enumerate")
      · wp_walk using q1
        exact ⟨_, rfl, h⟩
      · wp_walk using q1
        exact ⟨_, rfl, h⟩
    · wp_walk using q1
      exact ⟨_, rfl, h⟩
section
variable {prog : Program} {w : World} {A : Around} {E : Value → Shared → Prop} {s : Shared}
theorem px_enum1 {v : Value} {o : Obj} {H : Heap → Prop} {Q : Value → Shared → Prop} (B : Begins v o H) (h1 : H s.heap)
    (h : ∀ h', IsEnum h' (s.heap.objs.size + 1) s.heap.objs.size 0 .none → h'.get? s.heap.objs.size = some o → h'.objs.size = s.heap.objs.size + 2 →
      (∀ b o, s.heap.get? b = some o → h'.get? b = some o) → Q (.ref (s.heap.objs.size + 1)) { s with heap := h' }) :
    wpAny (model prog w) A (call (.type "enumerate") [v]) Q E s := by
  refine callType_new F.called_enumerate (by decide) (F.typeCall_enumerate_1 _) (F.newCall_enumerate_1 _) (fun obj => F.args_object_init_2 obj _) F.entry_enumerate_new
    (px_meets_enum1 B) ⟨h1, ?_⟩
  have hz : (s.heap.push o).objs.size = s.heap.objs.size + 1 := Heap.size_push ..
  show _ ∧ _
  rw [hz]
  have he : IsEnum ((s.heap.push o).push { cls := .type "enumerate", data := .fields #[.none, .bool false, .ref s.heap.objs.size, rawInt 0, .none, .none] }) (s.heap.objs.size + 1) s.heap.objs.size 0 .none := by
    have := Heap.get?_push_size (s.heap.push o) (o := { cls := .type "enumerate", data := .fields #[.none, .bool false, .ref s.heap.objs.size, rawInt 0, .none, .none] }) rfl
    rw [hz] at this; exact this
  refine ⟨⟨_, he, rfl⟩, h _ he (Heap.get?_push_of_some _ (Heap.get?_push_size _ B.free)) (by rw [Heap.size_push, hz]) fun b o x => Heap.get?_push_of_some _ (Heap.get?_push_of_some _ x)⟩
theorem px_enum_endT {e it t : Addr} {i : Nat} {k : Int} {items : Array Value} {old : Value} {Q : Option Value → Shared → Prop} (hh : A.handled = none)
    (he : IsEnum s.heap e it k old) (hit : s.heap.IsTupleIter it t i) (ht : s.heap.IsTuple t items) (hx : items[i]? = none)
    (hQ : ∀ h', Heap.ExtBut it s.heap h' → Q none { s with heap := h' }) : wpAny (model prog w) A (pyNext (.ref e)) Q E s := by
  have hT : s.TypeIs (.ref e) "enumerate" := ⟨_, he, rfl⟩
  unfold pyNext
  refine wpAny_bind (wpAny_attempt (wpAny_callSpecial?_slot (name := Str.ofString "__next__") hT F.slot_enumerate_next
    (wpAny_call_entry F.slot_enumerate_next hT F.entry_enumerate_next ?_ (F.args_enumerate_next_1 _))))
  show wpAny _ _ (field (.ref e) 2 >>= _) _ _ _
  refine wpAny_bind (wpAny_field he rfl (x := .ref it) rfl ?_)
  refine wpAny_bind (wpAny_nextOf_tuple_end (A := A.in1) (show A.in1.handled = none from hh) hit ht hx fun h' x he' hx' => ?_)
  obtain ⟨o, ho, hc⟩ := hx'
  refine wpAny_bind (wpAny_isInstance (T := "StopIteration") (b := true) ⟨o, ho, hc⟩ isSubtype_stop ?_)
  exact wpAny_pure (hQ _ he')
end
end PySem
namespace Px
open PySem PySem.Spec PyProof.Rows L2
def Iteu (K : PySem.W.Frag) (a : Addr) : It :=
  ⟨fun i H => ∃ (xs : List V) (x : V), SqT K H a xs ∧ xs[i]? = some x, fun i H v H' => ∃ T x, v = .ref T ∧ H T = none ∧ H' = upd H T (.tup [.int (i : Nat), x]) ∧ ∀ xs, SqT K H a xs → xs[i]? = some x, fun i H => ∃ xs : List V, SqT K H a xs ∧ xs.length ≤ i⟩
theorem turn_enumT {P : Program} {w : World} {K : PySem.W.Frag} {elts : List Expr} {kk : Nat} {tpos : Pos} (a e it : Addr) (hna : a ≠ it) :
    Turn P w K (.Tuple elts kk tpos) (Iteu K a) [e, it] e (fun i h => (∃ old, IsEnum h e it ((i : Nat) : Int) old) ∧ h.IsTupleIter it a i ∧ e ≠ it ∧ e ≠ a) where
  mem := by simp
  obj := fun i h st b hb => by
    obtain ⟨⟨old, he⟩, ⟨o, ho, hc, hd⟩, _⟩ := st
    have e' : b = e ∨ b = it := by simpa using hb
    rcases e' with z | z
    · rw [z]; exact ⟨_, he, fun v q => nomatch q⟩
    · rw [z]; exact ⟨o, ho, fun v q => by rw [hd] at q; cases q⟩
  keep := fun i h h' st k => let ⟨⟨old, he⟩, hi, hne⟩ := st; ⟨⟨old, k e (by simp) _ he⟩, hi.at fun o q => k it (by simp) o q, hne⟩
  item := by
    intro X hP hw hK hc i pins s σ H E I hf st hg
    subst hP hw hK
    obtain ⟨⟨old, he⟩, hit, hne, hea⟩ := st
    obtain ⟨xs, x, hq, hx⟩ := hg
    obtain ⟨its, rv, p, hz⟩ := I.tuple hq
    obtain ⟨u, hu, ru⟩ := rv.get hx
    have hel : e < s.heap.objs.size := Heap.lt_size he
    have hil : it < s.heap.objs.size := by obtain ⟨_, q, _⟩ := hit; exact Heap.lt_size q
    have pt : s.heap.IsTuple a its.toArray := p
    have hlt : i < its.toArray.size := by
      have := (List.getElem?_eq_some_iff.mp hu).1
      simpa using this
    refine wpAny_pyNext_enum_itemD (Draws.tuple (A := X.A.in1) (show X.A.in1.handled = none from I.ok.hd hc) it a hna its.toArray) he ⟨hit, pt⟩ hlt hne (by simp [hne, hea]) fun y h' tk hy ho hst hT hsz hk => ?_
    have hy' : y = u := by
      have q : its.toArray[i]? = some y := hy
      have q2 : its.toArray[i]? = some u := by simpa using hu
      rw [q2] at q; cases q; rfl
    subst hy'
    refine ⟨_, rfl, wpAny_letOwnedTupleGo_enum (s := { s with heap := h', toks := tk + 1 }) ho fun h'' he' sb => ?_⟩
    have hT2 : h''.get? s.heap.objs.size = some { cls := .type "tuple", data := .seq #[.int i tk, y] } := (sb.2 _ (Nat.ne_of_gt hel)).trans hT
    have new : ObjOk X.prog X.w (upd H s.heap.objs.size (.tup [.int (i : Nat), x])) h'' s.heap.objs.size (.tup [.int (i : Nat), x]) :=
      ⟨by show 2 ≤ sizeLine; decide, [.int i tk, y], .cons ⟨_, rfl⟩ (.cons ru .nil), ⟨_, hT2, rfl, _, rfl⟩⟩
    have I1 : Inv X pins σ (upd H s.heap.objs.size (.tup [.int (i : Nat), x])) { s with heap := h'', toks := tk + 1 } :=
      I.turnedNew (ch := [e, it]) (fun b ob hb q => (sb.2 b (fun z => hb (by simp [z]))).trans (hk b ob (fun z => hb (by simp [z])) (fun z => hb (by simp [z])) q)) hf (Nat.le_refl _) new
    refine ⟨.ref s.heap.objs.size, _, I1, rfl, ⟨_, x, rfl, I.hok.fresh (Nat.le_refl _), rfl, fun ys hy => by rw [I.tuple_inj hy hq]; exact hx⟩, ⟨⟨y, ?_⟩, hst.1.at fun o q => (sb.2 it (Ne.symm hne)).trans q, hne, hea⟩, fun b hb => ?_⟩
    · have e1 : ((i + 1 : Nat) : Int) = (i : Int) + 1 := by omega
      rw [e1]; exact he'
    · have hb' : b < s.heap.objs.size := by
        have e' : b = e ∨ b = it := by simpa using hb
        rcases e' with z | z
        · rw [z]; exact hel
        · rw [z]; exact hil
      rw [upd_ne (Nat.ne_of_lt hb')]
      exact (hf b hb).1
  done := by
    intro X hP hw hK hc i pins s σ H E I hf st hg
    subst hP hw hK
    obtain ⟨⟨old, he⟩, hit, hne, hea⟩ := st
    obtain ⟨xs, hq, hx⟩ := hg
    obtain ⟨its, rv, p, hz⟩ := I.tuple hq
    obtain ⟨f0, f1, f2, f3, f4, f5⟩ := hf it (by simp)
    have hl := rv.length
    have pt : s.heap.IsTuple a its.toArray := p
    exact px_enum_endT (I.ok.hd hc) he hit pt (by simp; omega) fun h' eb => ⟨rfl, I.turned (t' := s.toks) (fun b o hb q => eb b o hb q) f0 f1 f3 f4 f5⟩
  self := fun A i s Q E st h => let ⟨⟨_, he⟩, _⟩ := st; wpAny_pyIter_enum he h
section
variable {X : Cx} {W : WX} {tg e a b : Expr} {pe pa pb : PTE} {pl : PTA} {pos p tpos : Pos} {elts : List Expr} {kk : Nat}
def iAny (K : PySem.W.Frag) (tl : TE) : TI := fun σ H R => tl σ H fun x H1 => ∃ a, x = .ref a ∧ (((∃ xs, SqL K H1 a xs) ∧ R (Itl K a) H1) ∨ ((∃ xs, SqT K H1 a xs) ∧ R (Itt K a) H1))
theorem pi_any {tl : TE} (hl : PE X e tl) : PI X tg e (iAny X.K tl) := by
  refine ⟨fun pins s σ H R I h => ?_⟩
  refine thn (hl.run pins s σ H _ I h) fun v s1 ⟨x, H1, I1, r1, q1⟩ => ?_
  obtain ⟨a, e, (⟨⟨xs, hq⟩, q⟩ | ⟨⟨xs, hq⟩, q⟩)⟩ := q1
  · subst e
    cases r1
    obtain ⟨its, rv, p, hz⟩ := I1.list hq
    refine wpAny_pyIter_list p.isList ?_
    refine ⟨s1.heap.objs.size, [s1.heap.objs.size], _, _, H1, rfl, I1.kept (t' := s1.toks) fun b o e => Heap.get?_push_of_some _ e, turn_list a _, ⟨_, Heap.get?_push_size _ rfl, rfl, rfl⟩, fun b hb => ?_, q⟩
    have e : b = s1.heap.objs.size := by simpa using hb
    subst e
    exact I1.fpOk (Nat.le_refl _) (I1.hok.fresh (Nat.le_refl _))
  · subst e
    cases r1
    obtain ⟨its, rv, p, hz⟩ := I1.tuple hq
    refine wpAny_pyIter_tuple (show s1.heap.IsTuple a its.toArray from p) ?_
    refine ⟨s1.heap.objs.size, [s1.heap.objs.size], _, _, H1, rfl, I1.kept (t' := s1.toks) fun b o e => Heap.get?_push_of_some _ e, turn_tuple a _, ⟨_, Heap.get?_push_size _ rfl, rfl, rfl⟩, fun b hb => ?_, q⟩
    have e : b = s1.heap.objs.size := by simpa using hb
    subst e
    exact I1.fpOk (Nat.le_refl _) (I1.hok.fresh (Nat.le_refl _))
def iEnumA (K : PySem.W.Frag) (ta : TA) : TI := fun σ H R => ta σ H fun vs H1 => ∃ a xs, vs = [.ref a] ∧ ((SqL K H1 a xs ∧ R (Ite K a) H1) ∨ (SqT K H1 a xs ∧ R (Iteu K a) H1))
theorem pi_enumA {ta : TA} (hg : Gl X "enumerate") (hm : X.mg "enumerate" = none) (ha : PA X [e] ta) (hs : starEach [e] X.env = [(false, eval e X.env)] := by rfl) :
    PI X (.Tuple elts kk tpos) (.Call (.Name "enumerate" p) [e] [] pos) (iEnumA X.K ta) := by
  refine ⟨fun pins s σ H R I h => ?_⟩
  refine Call_ (ld_blt I hg hm boot_enumerate (PyProof.Rows.callWith_type1 (thn (ha.run pos pins s σ H _ I h) fun us s1 ⟨vs, H1, I1, r1, q1⟩ => ?_) hs rfl))
  obtain ⟨a, xs, ex, q1⟩ := q1
  subst ex
  cases r1 with
  | cons r rr =>
    cases rr
    cases r
    rcases q1 with ⟨hq, q⟩ | ⟨hq, q⟩
    · obtain ⟨its, rv, p', hz⟩ := I1.list hq
      refine call_enumerate_list p'.isList fun h' he hit hsz hk => wpAny_pyIter_enum he ?_
      have I2 : Inv X pins σ H1 { s1 with heap := h' } := I1.kept (t' := s1.toks) hk
      refine ⟨s1.heap.objs.size + 1, [s1.heap.objs.size + 1, s1.heap.objs.size], _, _, H1, rfl, I2, turn_enum a (s1.heap.objs.size + 1) s1.heap.objs.size, ⟨⟨.none, he⟩, hit, Nat.succ_ne_self _⟩, fun b hb => ?_, q⟩
      have e' : b = s1.heap.objs.size + 1 ∨ b = s1.heap.objs.size := by simpa using hb
      have hle : s1.heap.objs.size ≤ b := by
        rcases e' with z | z
        · rw [z]; exact Nat.le_add_right _ _
        · rw [z]; exact Nat.le_refl _
      exact I1.fpOk hle (I1.hok.fresh hle)
    · obtain ⟨its, rv, p', hz⟩ := I1.tuple hq
      have pt : s1.heap.IsTuple a its.toArray := p'
      have hal : a < s1.heap.objs.size := by obtain ⟨o, q, _⟩ := pt; exact Heap.lt_size q
      refine px_enum1 (begins_tuple a its.toArray) pt fun h' he hit hsz hk => wpAny_pyIter_enum he ?_
      have I2 : Inv X pins σ H1 { s1 with heap := h' } := I1.kept (t' := s1.toks) hk
      refine ⟨s1.heap.objs.size + 1, [s1.heap.objs.size + 1, s1.heap.objs.size], _, _, H1, rfl, I2, turn_enumT a (s1.heap.objs.size + 1) s1.heap.objs.size (Nat.ne_of_lt hal), ⟨⟨.none, he⟩, ⟨_, hit, rfl, rfl⟩, Nat.succ_ne_self _, Nat.ne_of_gt (Nat.lt_succ_of_lt hal)⟩, fun b hb => ?_, q⟩
      have e' : b = s1.heap.objs.size + 1 ∨ b = s1.heap.objs.size := by simpa using hb
      have hle : s1.heap.objs.size ≤ b := by
        rcases e' with z | z
        · rw [z]; exact Nat.le_add_right _ _
        · rw [z]; exact Nat.le_refl _
      exact I1.fpOk hle (I1.hok.fresh hle)
def iA (pe : PTE) : PTA := fun w ρ M q => pe w ρ M fun d M' => match d with | .lst l => q l M' | .tup l => q l M' | .scr ns => q (ns.map .int) M' | _ => False
theorem di_any (h : DE X W e pe) : DI X W tg e (iA pe) := pi_imp (pi_any h) fun σ H R hE => hE.el fun g ρ M F O q w A pr hw k =>
  (.mk A pr hw (fun v H' F' O' M' d A' s r q => by
    cases d with
    | lst l =>
      obtain ⟨a, xs, e, hs, rl⟩ := r
      exact ⟨a, e, .inl ⟨⟨xs, .inl (.inl (A'.sub _ _ hs))⟩, k _ H' F' O' M' l A' s (wk_list (.inl (.inl hs)) rl) q⟩⟩
    | tup l =>
      obtain ⟨a, xs, e, hs, rl⟩ := r
      exact ⟨a, e, .inr ⟨⟨xs, same_t A'.sub hs⟩, k _ H' F' O' M' l A' s (wk_tup hs rl) q⟩⟩
    | scr ns =>
      obtain ⟨a, e, hs⟩ := r
      exact ⟨a, e, .inl ⟨⟨_, same_l A'.sub hs⟩, k _ H' F' O' M' _ A' s (wk_list hs (RpL.of_ints ns)) q⟩⟩
    | _ => exact (show False from q).elim))
theorem wk_enumT {K : PySem.W.Frag} {F : Hp} {a : Addr} {xs : List V} {ds : List D} (h : SqT K F a xs) (r : RpL K F ds xs) : Wk K (Iteu K a) F (enumD 0 ds) where
  go := fun g σ ρ M F' O H i A s hi => by
    rw [enumD_len] at hi
    exact ⟨xs, xs[i]'(by rw [← r.len]; exact hi), same_t (s.trans A.sub) h, List.getElem?_eq_getElem _⟩
  yl := fun g σ ρ M F' O H i x H' d A s ⟨T, y, ex, hT, eH, hx⟩ hd => by
    rw [enumD_get] at hd
    cases q : ds[i]? with
    | none => rw [q] at hd; cases hd
    | some d0 =>
      rw [q] at hd
      cases hd
      obtain ⟨z, h1, h2⟩ := r.get q
      have e2 := hx xs (same_t (s.trans A.sub) h)
      rw [h1] at e2
      have e3 : z = y := Option.some.inj e2
      subst e3 eH ex
      have sn := same_new (o := .tup [.int (i : Nat), z]) (A.f0 hT)
      exact ⟨_, A.lay hT, sn, T, _, rfl, .inl (.inl upd_same), .int (i : Nat), _, rfl, by rw [Nat.zero_add]; rfl, z, _, rfl, Rp.mono (s.trans sn) _ _ h2, rfl⟩
  sp := fun g σ ρ M F' O H A s => ⟨xs, same_t (s.trans A.sub) h, by rw [enumD_len, r.len]; exact Nat.le_refl _⟩
def iEA (pe : PTE) : PTA := fun w ρ M q => pe w ρ M fun d M' => match d with | .lst l => q (enumD 0 l) M' | .tup l => q (enumD 0 l) M' | _ => False
theorem di_enumA (hg : Gl X "enumerate") (hm : X.mg "enumerate" = none) (ha : DE X W a pa) (he : starEach [a] X.env = (false, eval a X.env) :: starEach [] X.env := by rfl) (hs : starEach [a] X.env = [(false, eval a X.env)] := by rfl) :
    DI X W (.Tuple elts kk tpos) (.Call (.Name "enumerate" p) [a] [] pos) (iEA pa) := pi_imp (pi_enumA hg hm (pa_cons ha pa_nil he) hs) fun σ H R hE => hE.el fun g ρ M F O q w A pr hw k =>
  (.mk A pr hw (fun v H' F' O' M' d A' s r q => by
    cases d with
    | lst l =>
      obtain ⟨a, xs, e, hs, rl⟩ := r
      exact ⟨a, xs, by rw [e], .inl ⟨.inl (.inl (A'.sub _ _ hs)), k _ H' F' O' M' _ A' s (wk_enum (.inl (.inl hs)) rl) q⟩⟩
    | tup l =>
      obtain ⟨a, xs, e, hs, rl⟩ := r
      exact ⟨a, xs, by rw [e], .inr ⟨same_t A'.sub hs, k _ H' F' O' M' _ A' s (wk_enumT hs rl) q⟩⟩
    | _ => exact (show False from q).elim))
def fIsi2 (t u : String) : F1 := fun d k => match tyD d with | some a => k (.bl (subTy a t || subTy a u)) | none => False
end
end Px
set_option Elab.async false
set_option linter.all false
set_option maxRecDepth 100000
namespace Px
open PySem PySem.Spec PyProof.Rows L2
section
variable {X : Cx} {W : WX} {tg e a b : Expr} {pe pa pb : PTE} {pl : PTA} {pos p tpos : Pos}
theorem de_isi2 (T U : String) (hT : T ∈ tys) (hU : U ∈ tys) {x2 x3 : Str} {p2 p3 pt : Pos} {kt} (hg : Gl X "isinstance") (hm : X.mg "isinstance" = none) (hg2 : Gl X x2) (hm2 : X.mg x2 = none) (hv2 : bootBuiltins x2 = some (.type T))
    (hg3 : Gl X x3) (hm3 : X.mg x3 = none) (hv3 : bootBuiltins x3 = some (.type U)) (ha : DO X W a pa)
    (hn2 : x2 ≠ "__name__" := by decide) (hd2 : (x2 == ("__debug__" : Str)) = false := by decide) (hn3 : x3 ≠ "__name__" := by decide) (hd3 : (x3 == ("__debug__" : Str)) = false := by decide)
    (he : starEach [a, .Tuple [.Name x2 p2, .Name x3 p3] kt pt] X.env = (false, eval a X.env) :: starEach [.Tuple [.Name x2 p2, .Name x3 p3] kt pt] X.env := by rfl)
    (he2 : starEach [.Tuple [.Name x2 p2, .Name x3 p3] kt pt] X.env = (false, eval (.Tuple [.Name x2 p2, .Name x3 p3] kt pt) X.env) :: starEach [] X.env := by rfl)
    (he3 : starEach [.Name x2 p2, .Name x3 p3] X.env = (false, eval (.Name x2 p2) X.env) :: starEach [.Name x3 p3] X.env := by rfl) (he4 : starEach [.Name x3 p3] X.env = (false, eval (.Name x3 p3) X.env) :: starEach [] X.env := by rfl)
    (hpl : (backTo pos (starEach [.Tuple [.Name x2 p2, .Name x3 p3] kt pt] X.env)).any (·.1) = false := by rfl) : DE X W (.Call (.Name "isinstance" p) [a, .Tuple [.Name x2 p2, .Name x3 p3] kt pt] [] pos) (dB1 (fIsi2 T U) pa) :=
  pe_imp (pe_callB call_isiT hg hm (by decide +kernel) (pa_cons ha (pa_cons (pe_tup (pa_cons (pe_bltn (v := .ty T) hg2 hm2 hv2 rfl hn2 hd2) (pa_cons (pe_bltn (v := .ty U) hg3 hm3 hv3 rfl hn3 hd3) pa_nil he4) he3)) pa_nil he2) he) (by decide) (by decide) he hpl) fun σ H Q hE => hE.el fun g ρ M F O q w A p hw k =>
  (.mk A p hw (fun v H1 F1 O1 M1 d A1 s1 r1 q1 => ⟨by show 2 ≤ sizeLine; decide, fun tp hp => by
    cases e : tyD d with
    | none => simp only [fIsi2, e] at q1
    | some t =>
      simp only [fIsi2, e] at q1
      have A2 := A1.laid (o := .tup [.ty T, .ty U]) hp
      refine ⟨v, tp, [.ty T, .ty U], _, [.type T, .type U], subTy t T || subTy t U, rfl, upd_same, .cons (.ty T) (.cons (.ty U) .nil), vw_ty A2 r1 e, ?_, k (.bl (subTy t T || subTy t U)) _ F1 O1 M1 (.bl (subTy t T || subTy t U)) A2 s1 rfl q1⟩
      refine kitAny_cons (kit_ty (kit_tys t (tyD_mem e) T hT)) (fun h1 => ?_) (fun h1 => by rw [h1]; rfl)
      rw [h1, Bool.false_or]
      exact kitAny_cons (kit_ty (kit_tys t (tyD_mem e) U hU)) (fun h2 => by rw [h2]; exact kitAny_nil) (fun h2 => h2)⟩))
def pick {α : Type} (ix : List Nat) (l : List α) : List α := ix.filterMap fun i => l[i]?
abbrev DK (X : Cx) (W : WX) (ks : List Keyword) (p : PTA) : Prop := PK X ks (realA X.K W p)
theorem dk_nil : DK X W [] dNil := ⟨fun pos pins s σ H Q I hE => hE.el fun g ρ M F O q w A p hw k => pk_nil.run pos pins s σ H Q I (k [] H F O M [] A (Same.refl F) rfl p)⟩
theorem dk_cons {nm : Option Str} {kpos : Pos} {kws : List Keyword} (ha : DE X W e pe) (hr : DK X W kws pl) : DK X W (⟨nm, e, kpos⟩ :: kws) (dCons pe pl) :=
  ⟨fun pos pins s σ H Q I hE => hE.el fun g ρ M F O q w A p hw k => (pk_cons (nm := nm) (kpos := kpos) ha hr).run pos pins s σ H Q I
    (.mk A p hw (fun v H1 F1 O1 M1 d A1 s1 r1 q1 => (.mk A1 q1 (hw.mono s1) (fun vs H2 F2 O2 M2 ds A2 s2 r2 q2 => k (v :: vs) H2 F2 O2 M2 (d :: ds) A2 (s1.trans s2) ⟨v, vs, rfl, Rp.mono s2 d v r1, r2⟩ q2))))⟩
theorem vals_get : ∀ {vs : List V} {us : List Value} (i : Nat), Vals vs us → (∃ v u, vs[i]? = some v ∧ us[i]? = some u ∧ RelV v u) ∨ (vs[i]? = none ∧ us[i]? = none)
  | _, _, _, .nil => .inr ⟨rfl, rfl⟩
  | _, _, 0, .cons r t => .inl ⟨_, _, rfl, rfl, r⟩
  | _, _, i + 1, .cons r t => vals_get i t
theorem vals_pick {vs : List V} {us : List Value} (h : Vals vs us) : ∀ ix : List Nat, Vals (pick ix vs) (pick ix us)
  | [] => .nil
  | i :: r => by
    rcases vals_get i h with ⟨v, u, h1, h2, h3⟩ | ⟨h1, h2⟩
    · unfold pick
      rw [List.filterMap_cons_some h1, List.filterMap_cons_some h2]
      exact .cons h3 (vals_pick h r)
    · unfold pick
      rw [List.filterMap_cons_none h1, List.filterMap_cons_none h2]
      exact vals_pick h r
theorem rpl_get {K : PySem.W.Frag} {F : Hp} : ∀ {ds : List D} {vs : List V} (i : Nat), RpL K F ds vs → (∃ d v, ds[i]? = some d ∧ vs[i]? = some v ∧ Rp K F d v) ∨ (ds[i]? = none ∧ vs[i]? = none)
  | [], vs, i, h => by
    have e : vs = [] := h
    subst e
    exact .inr ⟨rfl, rfl⟩
  | d :: ds, vs, 0, h => by
    obtain ⟨v, r, rfl, h1, h2⟩ := h
    exact .inl ⟨d, v, rfl, rfl, h1⟩
  | d :: ds, vs, i + 1, h => by
    obtain ⟨v, r, rfl, h1, h2⟩ := h
    exact rpl_get i h2
theorem rpl_pick {K : PySem.W.Frag} {F : Hp} {ds : List D} {vs : List V} (h : RpL K F ds vs) : ∀ ix : List Nat, RpL K F (pick ix ds) (pick ix vs)
  | [] => rfl
  | i :: r => by
    rcases rpl_get i h with ⟨v, u, h1, h2, h3⟩ | ⟨h1, h2⟩
    · unfold pick
      rw [List.filterMap_cons_some h1, List.filterMap_cons_some h2]
      exact ⟨u, _, rfl, h3, rpl_pick h r⟩
    · unfold pick
      rw [List.filterMap_cons_none h1, List.filterMap_cons_none h2]
      exact rpl_pick h r
def dCallK (sp : PSp) (ix : List Nat) (pl : PTA) : PTE := fun w ρ M q => pl w ρ M fun ds M1 => sp (pick ix ds) M1 q fun cls fs M2 => w cls fs ρ M2
def KwB (K : PySem.W.Frag) (fd : FuncData) (ps ks : List Str) (ix : List Nat) : Prop := ∀ (s : Shared) (ws : List Value), K.In s.heap → (pick ix ws).length = ps.length → BindsTo s fd ⟨[], ks.zip ws⟩ (ps.zip (pick ix ws))
section
variable {k n : Nat} {f : Addr} {fd : FuncData} {ps ks : List Str} {sp : PSp} {x : Str} {kws : List Keyword} {ix : List Nat}
theorem de_callK (Fg : FnG X.prog X.w X.K X.mg X.base k f fd ps (toSp X.K n sp)) (hn : ps.length = n) (hlen : ∀ ds M q e, sp ds M q e → ds.length = n) (hr : Room k X.A) (hG : X.A.guards = some []) (hg : Gl X x) (hm : X.mg x = some (.ref f))
    (hk : PySem.W.keepIn X.K (.ref f) = true) (hb : KwB X.K fd ps ks ix) (tk : Takes X W) (ha : DK X W kws pl)
    (hall : (backToKw pos (keywordEach kws X.env)).all (·.1.isSome) = true := by rfl) (hks : (backToKw pos (keywordEach kws X.env)).filterMap (·.1) = ks := by rfl) (hdb : (x == ("__debug__" : Str)) = false := by decide)
    (hpl : ((backTo pos (starEach [] X.env)).any (·.1) || (backToKw pos (keywordEach kws X.env)).any (·.1.isNone)) = false := by rfl) : DE X W (.Call (.Name x p) [] kws pos) (dCallK sp ix pl) := by
  refine ⟨fun pins s σ H Q I hE => hE.el fun g ρ M F O q w A pr hw kk => ?_⟩
  refine wpAny_Call_Name_kw (ld_glob I hg hm ?_ hdb)
  refine PySem.W.callWith_KW0 (h₀ := X.base) I.ok.mod.kin hk hall (thn (ha.run pos pins s σ H (fun vs H1 => toSp X.K n sp (pick ix vs) H1 Q fun cls d H' => W cls d σ H') I ?_) fun us s1 hh => ?_) hpl
  · refine (.mk A pr hw (fun vs H1 F1 O1 M1 d1 A1 s1 r1 q1 => ?_))
    have e := call_reading (dd := []) (dvs := []) hn (fun _ => rfl) A1 (hw.mono s1) (rpl_pick r1 ix) (by rw [List.append_nil]; exact hlen _ _ _ _ q1) (by rw [List.append_nil]; exact q1) fun v H2 F2 O2 M2 d2 A2 s2 r2 q2 => kk v H2 F2 O2 M2 d2 A2 (s1.trans s2) r2 q2
    rw [List.append_nil] at e
    exact e
  · obtain ⟨vs, H1, I1, r, q1⟩ := hh
    refine ⟨I1.kIn, ?_⟩
    rw [hks]
    have r2 := vals_pick r ix
    have hl : (pick ix us).length = ps.length := by rw [← r2.length]; exact Fg.len _ _ _ _ q1
    refine wpAny_call (codeAny_mono (Fg.run X.A X.stack s1 H1 ⟨[], ks.zip us⟩ (pick ix us) (pick ix vs) Q _ hr hG I1.env0 (hb s1 us I1.kIn hl) r2 q1) fun r s' hq => ?_)
    cases r with
    | error e => exact tk e s' (XE.of_call I1 (fun _ _ _ h => h) hq)
    | ok fl =>
      cases fl with
      | ret u => exact I1.after hq
      | next => exact hq.elim
      | brk => exact hq.elim
      | cont => exact hq.elim
end
abbrev PTO := PWi → Rho → Mm → (Option Int → Mm → Prop) → Prop
def realP (K : PySem.W.Frag) (W : WX) (p : PTO) : L2.TO := fun σ H Q => ∃ g ρ M F O q w, Ab K g σ H ρ M F O ∧ p w ρ M q ∧ WOk K g F W w ∧ ∀ o H' F' O' M', Ab K g σ H' ρ M' F' O' → Same F F' → q o M' → Q o H'
theorem realP.mk {K W p σ H Q} {g : Gh} {ρ : Rho} {M : Mm} {F : Hp} {O : Own} {q w} (A : Ab K g σ H ρ M F O) (h : p w ρ M q) (hw : WOk K g F W w) (k : ∀ o H' F' O' M', Ab K g σ H' ρ M' F' O' → Same F F' → q o M' → Q o H') : realP K W p σ H Q := ⟨g, ρ, M, F, O, q, w, A, h, hw, k⟩
theorem realP.el {K W p σ H Q} {C : Prop} (h : realP K W p σ H Q) (f : ∀ g ρ M F O q w, Ab K g σ H ρ M F O → p w ρ M q → WOk K g F W w → (∀ o H' F' O' M', Ab K g σ H' ρ M' F' O' → Same F F' → q o M' → Q o H') → C) : C := by
  obtain ⟨g, ρ, M, F, O, q, w, A, a, b, c⟩ := h
  exact f g ρ M F O q w A a b c
def fTup : F1
  | .lst l, k => k (.tup l)
  | .tup l, k => k (.tup l)
  | _, _ => False
theorem de_tupc (hg : Gl X "tuple") (hm : X.mg "tuple" = none) (ha : DO X W a pa) (he : starEach [a] X.env = (false, eval a X.env) :: starEach [] X.env := by rfl) (hpl : (backTo pos (starEach [] X.env)).any (·.1) = false := by rfl) :
    DE X W (.Call (.Name "tuple" p) [a] [] pos) (dB1 fTup pa) := de_t1 call_tuple_of (f := fTup) (fun g σ H ρ M F O x v k Q A rx h c => by
    cases x with
    | lst l =>
      obtain ⟨p, xs, e1, h1, rl⟩ := rx.lst A
      refine ⟨p, xs, by rw [e1], .inl ⟨.inl (.inl h1), fun t ht => ?_⟩⟩
      have sn := same_new (o := .tup xs) (A.f0 ht)
      exact c (.tup l) _ _ _ O (A.lay ht) sn ⟨t, _, rfl, .inl (.inl upd_same), RpL.mono sn _ _ rl⟩ h
    | tup l =>
      obtain ⟨p, xs, e1, h1, rl⟩ := rx.tupF
      exact ⟨p, xs, by rw [e1], .inr ⟨same_t A.sub h1, c (.tup l) _ H F O A (Same.refl F) ⟨p, xs, rfl, h1, rl⟩ h⟩⟩
    | _ => exact (show False from h).elim) hg hm (by decide +kernel) ha (by decide) (by decide) he hpl
end
end Px
set_option Elab.async false
set_option linter.all false
set_option maxRecDepth 100000
namespace Px
open PySem PySem.Spec PyProof.Rows L2
theorem kwb_of {K : PySem.W.Frag} {x qual : Str} {st : Stmt} {f : Addr} {fd : FuncData} {ps : List Str} (ks : List Str) (ix : List Nat) (F : L2.Fun K x qual st f fd)
    (h : ∀ (kV doc pm : Value) (an : Option Addr) (cdv ct : Value) (ws : List Value), (pick ix ws).length = ps.length → bindArgs (PySem.W.fnOf x qual (defArgs st) (defBody st) (defScope st) .none kV doc pm an cdv ct) ⟨[], ks.zip ws⟩ = pure (ps.zip (pick ix ws))) : KwB K fd ps ks ix := by
  obtain ⟨oc, od, kV, doc, pm, an, cdv, ct, osl, rfl, lk, hcd⟩ := F.ex
  exact fun s ws _ hl => .of_eq (h kV doc pm an cdv ct ws hl)
end Px
set_option Elab.async false
set_option linter.all false
set_option maxRecDepth 100000
namespace Px
open PySem PySem.Spec PyProof.Rows L2
section
variable {X : Cx} {W : WX} {K : PySem.W.Frag} {a b : Expr} {pa pb : PTE} {pos : Pos}
end
def itemsD : D → Option (List Int)
  | .lst l => intsOf l
  | .tup l => intsOf l
  | _ => none
def fInI (neg : Bool) : F2 := fun x y k => match x, itemsD y with
  | .int i, some ns => k (.bl (if neg then !decide (i ∈ ns) else decide (i ∈ ns)))
  | _, _ => False
theorem inV_ints (i : Int) (ns : List Int) : inV (.int i) (ns.map V.int) = decide (i ∈ ns) := by
  unfold inV
  induction ns with
  | nil => rfl
  | cons n r ih =>
    rw [List.map_cons, List.any_cons, ih]
    have e : eqV (.int n) (.int i) = decide (i = n) := by
      show decide (n = i) = decide (i = n)
      by_cases c : n = i
      · subst c; rfl
      · rw [decide_eq_false c, decide_eq_false (fun z => c z.symm)]
    rw [e]
    by_cases c : i = n
    · subst c; simp
    · simp [c]
theorem flat_ints (ns : List Int) : (ns.map V.int).all flatV = true := by
  rw [List.all_eq_true]
  intro x hx
  obtain ⟨n, _, rfl⟩ := List.mem_map.mp hx
  rfl
theorem opf_inI {K : PySem.W.Frag} (neg : Bool) : OpF K (rIn K neg) (fInI neg) := by
  intro g σ H ρ M F O x y v u k Q A rx ry h c
  cases x with
  | int i =>
    have fin : ∀ (p : Addr) (l : List D) (xs : List V), u = .ref p → (SqL K H p xs ∨ SqT K H p xs) → RpL K F l xs → intsOf l = itemsD y → rIn K neg v u H Q := fun p l xs eu hs rl el => by
      cases e : intsOf l with
      | none =>
        rw [e] at el
        simp only [fInI, ← el] at h
      | some ns =>
        rw [e] at el
        simp only [fInI, ← el] at h
        have e1 := intsOf_eq e
        subst e1
        have ex := rl.ints
        subst ex
        refine ⟨p, ns.map V.int, eu, hs, by rw [rx.int]; rfl, flat_ints ns, ?_⟩
        rw [rx.int, inV_ints]
        exact c (.bl (if neg then !decide (i ∈ ns) else decide (i ∈ ns))) _ H F O A (Same.refl F) rfl h
    cases y with
    | lst l =>
      obtain ⟨p, xs, e1, h1, rl⟩ := ry.lst A
      exact fin p l xs e1 (.inl (.inl (.inl h1))) rl rfl
    | tup l =>
      obtain ⟨p, xs, e1, h1, rl⟩ := ry.tupF
      exact fin p l xs e1 (.inr (same_t A.sub h1)) rl rfl
    | _ => exact (show False from h).elim
  | _ => exact (show False from h).elim
section
variable {X : Cx} {W : WX} {a b : Expr} {pa pb : PTE} {pos : Pos}
theorem de_inI (ha : DO X W a pa) (hb : DO X W b pb) (hm : behindInMarks .In b = false := by rfl) : DE X W (.Compare a [.In] [b] pos) (dOp (fInI false) pa pb) := de_cmp op_in_seq (opf_inI false) ha hb hm
theorem dt_notinI (ha : DO X W a pa) (hb : DO X W b pb) (hm : behindInMarks .NotIn b = false := by rfl) : DT X W (.Compare a [.NotIn] [b] pos) (dTst (dOp (fInI true) pa pb)) := dt_cmp op_notIn_seq (opf_inI true) ha hb hm
end
end Px
set_option Elab.async false
set_option linter.all false
set_option maxRecDepth 100000
set_option maxHeartbeats 4000000
namespace Px
open PySem PySem.Spec PyProof.Rows L2
def lexL : List Int → List Int → Bool
  | [], [] => false
  | [], _ :: _ => true
  | _ :: _, [] => false
  | x :: r, y :: s => if x = y then lexL r s else decide (x < y)
section
variable {prog : Program} {w : World} {A : Around} {s : Shared}
end
end Px
set_option Elab.async false
set_option linter.all false
set_option maxRecDepth 100000
set_option maxHeartbeats 4000000
namespace Px
open PySem PySem.Spec PyProof.Rows L2
section
variable {prog : Program} {w : World} {A : Around} {s : Shared} {E : Value → Shared → Prop}
end
end Px
set_option Elab.async false
set_option linter.all false
set_option maxRecDepth 100000
set_option maxHeartbeats 4000000
namespace Px
open PySem PySem.Spec PyProof.Rows L2
section
variable {M : Model} {A : Around} {E : Value → Shared → Prop} {s : Shared}
end
section
variable {prog : Program} {w : World} {A : Around} {s : Shared} {E : Value → Shared → Prop}
end
end Px
set_option Elab.async false
set_option linter.all false
set_option maxRecDepth 100000
namespace Px
open PySem PySem.Spec PyProof.Rows L2
section
variable {prog : Program} {w : World} {A : Around} {s : Shared} {E : Value → Shared → Prop}
end
section
variable {X : Cx}
end
end Px
set_option Elab.async false
set_option linter.all false
set_option maxRecDepth 100000
namespace Px
open PySem PySem.Spec PyProof.Rows L2
section
variable {X : Cx} {pins : List (Addr × Obj)} {σ : L2.St} {H F : Hp} {s : Shared}
end
abbrev tupI (ns : List Int) : D := .tup (ns.map .int)
section
variable {X : Cx} {W : WX} {a : Expr} {pa : PTE} {p pos : Pos}
end
end Px
set_option Elab.async false
set_option linter.all false
set_option maxRecDepth 100000
namespace Px
open PySem PySem.Spec PyProof.Rows L2
structure Cl where
  (BadSpeed BadHalf BadNumber BadStretch BadDoubt BadHalves BadPattern TooGreat NoSpeed BadLook Clash BadProgram BadSayings BadGroups BadBands BadDeed BadLine Rows Net Pattern Program Moment Mark Watch FlashError : Addr)
  tb : Nat → Addr
  wd : World
def isI : D → Bool
  | .int _ => true
  | _ => false
def plain (d : D) : Bool := (tyD d).isSome
def parts (d : D) : Bool := match d with | .tup l => l.all plain | _ => true
def btwD (d : D) (lo hi : Int) : Bool := match d with | .int i => decide (lo ≤ i) && decide (i ≤ hi) | _ => false
def Bd (i : Int) : Prop := i.natAbs < 2 ^ 8000
theorem Bd.div {i : Int} (h0 : 0 < i) (h : Bd i) (j : Int) : CDivW j i := ⟨h0, Nat.lt_trans (PySem.Flt.log2_lt_of (by decide) h) (by decide)⟩
theorem Bd.mul {i j : Int} (h : Bd i) (h' : Bd j) : CMulX i j := mulx_ok h h' (by decide)
theorem Bd.le {i j : Int} (h : Bd j) (h0 : 0 ≤ i) (h1 : i ≤ j) : Bd i := Nat.lt_of_le_of_lt (by omega) h
theorem Bd.small {i : Int} (h0 : -(2 ^ 200) ≤ i) (h1 : i ≤ 2 ^ 200) : Bd i := by
  have e : i.natAbs ≤ 2 ^ 200 := by omega
  exact Nat.lt_of_le_of_lt e (Nat.pow_lt_pow_right (by decide) (by decide))
theorem cmul_of {i j : Int} {a b : Nat} (ha : i.natAbs < 2 ^ a) (hb : j.natAbs < 2 ^ b) (h : a + b ≤ 134217728) : CMulX i j := mulx_ok ha hb h
def g0 (a b : Int) : Int := (Int.gcd a b : Int)
def spd (a b : Int) : D := .tup [.int (a / g0 a b), .int (b / g0 a b)]
def near (s t : Int) : Int := if s - t % s < t % s then s - t % s else t % s
def foldD (h t b : Int) : D := spd (near (2 * h * b) t) b
def sp_is_integer (C : Cl) : PSp := fun ds M q _ => ar1 ds fun d => plain d = true ∧ q (.bl (isI d)) M
def sp_is_between (C : Cl) : PSp := fun ds M q _ => ar3 ds fun d a b => plain d = true ∧ asI a fun lo => asI b fun hi => q (.bl (btwD d lo hi)) M
def sp_divisor (C : Cl) : PSp := fun ds M q _ => ar2 ds fun a b => asI a fun x => asI b fun y => 0 ≤ x ∧ 0 ≤ y ∧ q (.int (g0 x y)) M
def sp_lowest (C : Cl) : PSp := fun ds M q _ => ar2 ds fun a b => asI a fun x => asI b fun y => 0 ≤ x ∧ 0 < y ∧ Bd y ∧ q (spd x y) M
def sp_is_half (C : Cl) : PSp := fun ds M q _ => ar1 ds fun d => plain d = true ∧ q (.bl (btwD d 1 1000)) M
def sp_folded (C : Cl) : PSp := fun ds M q _ => ar3 ds fun h t b => asI h fun h => asI t fun t => asI b fun b => (0 < h ∧ 0 ≤ t ∧ 0 < b) ∧ (h ≤ 2 ^ 1000 ∧ b ≤ 2 ^ 1000) ∧ q (foldD h t b) M
def rd_is_integer (C : Cl) : PTS := (dRet (dAndV (dB1 (fIsi "int") (dVar 0)) (dNotV (dB1 (fIsi "bool") (dVar 0)))))
def rd_is_between (C : Cl) : PTS := (dRet (dAndV (dCall (sp_is_integer C) [] (dCons (dVar 0) dNil)) (dChain fLe fLe (dVar 1) (dVar 0) (dVar 2))))
def rd_divisor (C : Cl) : PTS := (dSeq (dWhile (dTst (dOp fGt (dVar 1) (dC (.int 0)))) (dPar 0 1 (dCons (dVar 1) (dCons (dOp fMod (dVar 0) (dVar 1)) dNil)))) (dRet (dVar 0)))
def rd_lowest (C : Cl) : PTS := (dSeq (dSet 2 (dCall (sp_divisor C) [] (dCons (dVar 0) (dCons (dVar 1) dNil)))) (dRet (dTup (dCons (dOp fDiv (dVar 0) (dVar 2)) (dCons (dOp fDiv (dVar 1) (dVar 2)) dNil)))))
theorem sh_is_integer (C : Cl) : Shows (sp_is_integer C) 1 (rd_is_integer C) := by
  intro ds M q e h
  obtain ⟨d, rfl, hp, hq⟩ := ar1_of h
  cases d <;> first
    | exact ⟨M, MLe.refl M, hq⟩
    | exact absurd hp (by simp [plain, tyD])
theorem sh_is_between (C : Cl) : Shows (sp_is_between C) 3 (rd_is_between C) := by
  intro ds M q e h
  obtain ⟨d, a, b, rfl, hp, h⟩ := ar3_of h
  obtain ⟨lo, e1, h⟩ := asI_of h
  obtain ⟨hi, e2, hq⟩ := asI_of h
  subst e1 e2
  refine ⟨hp, ?_⟩
  cases d with
  | int i =>
    show if decide (lo ≤ i) = true then _ else _
    by_cases h1 : lo ≤ i
    · refine itT (decide_eq_true h1) ⟨M, MLe.refl M, ?_⟩
      have hq : q (.bl (decide (lo ≤ i) && decide (i ≤ hi))) M := hq
      rw [decide_eq_true h1] at hq
      exact hq
    · refine itF (decide_eq_false h1) ⟨M, MLe.refl M, ?_⟩
      have hq : q (.bl (decide (lo ≤ i) && decide (i ≤ hi))) M := hq
      rw [decide_eq_false h1] at hq
      exact hq
  | _ => first | exact ⟨M, MLe.refl M, hq⟩ | exact absurd hp (by simp [plain, tyD])
theorem g0_step (x y : Int) : g0 y (x % y) = g0 x y := by
  unfold g0
  have e : x % y = x + y * (-(x / y)) := by
    rw [Int.emod_def, Int.mul_neg]; omega
  rw [e, Int.gcd_add_mul_left_right, Int.gcd_comm]
theorem g0_zero {x : Int} (h : 0 ≤ x) : g0 x 0 = x := by
  unfold g0
  rw [Int.gcd_zero_right]
  omega
theorem sh_divisor (C : Cl) : Shows (sp_divisor C) 2 (rd_divisor C) := by
  intro ds M q e h
  obtain ⟨a, b, rfl, h⟩ := ar2_of h
  obtain ⟨x, e1, h⟩ := asI_of h
  obtain ⟨y, e2, h0, h1, hq⟩ := asI_of h
  subst e1 e2
  refine ⟨fun m ρ M' => ∃ x' y' : Int, ρ = [some (.val (.int x')), some (.val (.int y'))] ∧ M' = M ∧ 0 ≤ x' ∧ 0 ≤ y' ∧ g0 x' y' = g0 x y ∧ m = y'.toNat, ⟨_, x, y, rfl, rfl, h0, h1, rfl, rfl⟩, ?_⟩
  rintro m ρ M' ⟨x', y', rfl, rfl, g1, g2, g3, rfl⟩
  by_cases hy : 0 < y'
  · refine itT (decide_eq_true hy) ⟨hy, ?_⟩
    have e1 := Int.emod_nonneg x' (show y' ≠ 0 by omega)
    have e2 := Int.emod_lt_of_pos x' hy
    exact ⟨_, by omega, y', x' % y', rfl, rfl, g2, e1, by rw [g0_step]; exact g3, rfl⟩
  · refine itF (decide_eq_false hy) ⟨M', MLe.refl M', ?_⟩
    have e0 : y' = 0 := by omega
    rw [e0, g0_zero g1] at g3
    rw [g3]
    exact hq
theorem g0_pos {x y : Int} (h : 0 < y) : 0 < g0 x y := by
  have := Int.gcd_pos_iff (a := x) (b := y) |>.mpr (.inr (by omega))
  unfold g0
  omega
theorem g0_le {x y : Int} (h : 0 < y) : g0 x y ≤ y := by
  unfold g0
  exact Int.le_of_dvd h (Int.gcd_dvd_right ..)
theorem sh_lowest (C : Cl) : Shows (sp_lowest C) 3 (rd_lowest C) := by
  intro ds M q e h
  obtain ⟨a, b, rfl, h⟩ := ar2_of h
  obtain ⟨x, e1, h⟩ := asI_of h
  obtain ⟨y, e2, h0, h1, hb, hq⟩ := asI_of h
  subst e1 e2
  have gp := g0_pos (x := x) h1
  have gb := hb.le (Int.le_of_lt gp) (g0_le (x := x) h1)
  exact ⟨h0, Int.le_of_lt h1, gb.div gp x, gb.div gp y, by show 2 ≤ 1000000; decide, M, MLe.refl M, hq⟩
def rd_is_half (C : Cl) : PTS := (dRet (dCall (sp_is_between C) [] (dCons (dVar 0) (dCons (dC (.int 1)) (dCons (dC (.int 1000)) dNil)))))
def rd_folded (C : Cl) : PTS := (dSeq (dSet 3 (dOp fMod (dVar 1) (dOp fMul (dOp fMul (dC (.int 2)) (dVar 0)) (dVar 2))))
    (dRet (dCall (sp_lowest C) [] (dCons (dB1 fMin (dL (dLst (dCons (dVar 3) (dCons (dOp fSub (dOp fMul (dOp fMul (dC (.int 2)) (dVar 0)) (dVar 2)) (dVar 3)) dNil))))) (dCons (dVar 2) dNil)))))
theorem eqD_int (i j : Int) : eqD (.int i) (.int j) = decide (i = j) := rfl
theorem sh_is_half (C : Cl) : Shows (sp_is_half C) 1 (rd_is_half C) := by
  intro ds M q e h
  obtain ⟨d, rfl, hp, hq⟩ := ar1_of h
  exact ⟨hp, M, MLe.refl M, hq⟩
theorem sh_folded (C : Cl) : Shows (sp_folded C) 4 (rd_folded C) := by
  intro ds M q e hh0
  obtain ⟨x1, x2, x3, rfl, hx⟩ := ar3_of hh0
  obtain ⟨h, e1, x⟩ := asI_of hx
  subst e1
  obtain ⟨t, e2, x⟩ := asI_of x
  obtain ⟨b, e3, ⟨h0, t0, b0⟩, ⟨hh, bb⟩, hq⟩ := asI_of x
  subst e2 e3
  have m0 : 0 < 2 * h := by omega
  have m1 : 0 < 2 * h * b := Int.mul_pos m0 b0
  have r0 := Int.emod_nonneg t (show 2 * h * b ≠ 0 by omega)
  have r1 := Int.emod_lt_of_pos t m1
  have q1 : CMulX 2 h := cmul_of (a := 2) (b := 1001) (by decide) (by
    have : h.natAbs ≤ 2 ^ 1000 := by omega
    exact Nat.lt_of_le_of_lt this (by decide)) (by decide)
  have q2 : CMulX (2 * h) b := cmul_of (a := 1002) (b := 1001) (by
    have : (2 * h).natAbs ≤ 2 * 2 ^ 1000 := by omega
    exact Nat.lt_of_le_of_lt this (by decide)) (by
    have : b.natAbs ≤ 2 ^ 1000 := by omega
    exact Nat.lt_of_le_of_lt this (by decide)) (by decide)
  refine ⟨q1, q2, m1, q1, q2, by show 2 ≤ 1000000; decide, ?_, b0, ?_, M, MLe.refl M, ?_⟩
  · show 0 ≤ near (2 * h * b) t
    unfold near
    split <;> omega
  · have : b.natAbs ≤ 2 ^ 1000 := by omega
    exact Nat.lt_of_le_of_lt this (by decide)
  · exact hq
end Px
set_option Elab.async false
set_option linter.all false
set_option maxRecDepth 100000
namespace Px
open PySem PySem.Spec PyProof.Rows L2
theorem near_bounds {s : Int} (hs : 0 < s) (t : Int) : 0 ≤ near s t ∧ 2 * near s t ≤ s ∧ (near s t = t % s ∨ near s t = s - t % s) := by
  have a := Int.emod_nonneg t (show s ≠ 0 by omega)
  have b := Int.emod_lt_of_pos t hs
  unfold near
  split <;> omega
end Px
set_option Elab.async false
set_option linter.all false
set_option maxRecDepth 100000
namespace Px
open PySem PySem.Spec PyProof.Rows L2
theorem compR_fm {gd : PTG} {tt : PTT} {te : PTE} {ρ : Rho} {M : Mm} {q : List D → Mm → Prop} (fm : D → Option D) : ∀ (ds acc : List D),
    (∀ d ∈ ds, ∀ (kt : D → Mm → Prop) (kf : Mm → Prop), (match fm d with | some y => kt y M | none => kf M) → gd d ρ fun ρ' => tt w0 ρ' M fun b M1 => if b = true then te w0 ρ' M1 kt else kf M1) →
    acc.length + ds.length ≤ 1000000 → q (acc ++ ds.filterMap fm) M → compR gd tt te ρ ds acc M q
  | [], acc, _, _, h => by
    have h : q (acc ++ []) M := h
    rw [List.append_nil] at h
    exact h
  | d :: r, acc, hb, hl, h => by
    have hl : acc.length + (r.length + 1) ≤ 1000000 := hl
    refine hb d List.mem_cons_self _ _ ?_
    rw [List.filterMap_cons] at h
    cases e : fm d with
    | some y =>
      rw [e] at h
      refine ⟨by omega, compR_fm fm r (acc ++ [y]) (fun d' h' => hb d' (List.mem_cons_of_mem _ h')) (by rw [List.length_append, List.length_singleton]; omega) ?_⟩
      rw [List.append_assoc]
      exact h
    | none =>
      rw [e] at h
      exact compR_fm fm r acc (fun d' h' => hb d' (List.mem_cons_of_mem _ h')) (by omega) h
theorem compR_map {gd : PTG} {tt : PTT} {te : PTE} {ρ : Rho} {M : Mm} {q : List D → Mm → Prop} (f : D → D) (ds : List D)
    (hb : ∀ d ∈ ds, ∀ (kt : D → Mm → Prop) (kf : Mm → Prop), kt (f d) M → gd d ρ fun ρ' => tt w0 ρ' M fun b M1 => if b = true then te w0 ρ' M1 kt else kf M1) (hl : ds.length ≤ 1000000)
    (h : q (ds.map f) M) : compR gd tt te ρ ds [] M q := by
  refine compR_fm (fun d => some (f d)) ds [] (fun d hd kt kf k => hb d hd kt kf k) (by simpa using hl) ?_
  rw [List.nil_append, show ds.filterMap (fun d => some (f d)) = ds.map f by rw [← List.filterMap_eq_map]; rfl]
  exact h
theorem forR_ix {gd : PTG} {pb : PTS} {w : PWi} {P : PEnds} (I : Nat → Rho → Mm → Prop) : ∀ (ds : List D) (k : Nat), (∀ i d, ds[i]? = some d → ∀ F : Rho → Mm → Prop, (∀ ρ M, I (k + i + 1) ρ M → F ρ M) → ∀ ρ M, I (k + i) ρ M → gd d ρ fun ρ' => pb w { P with nx := F, ct := F, bk := P.nx } ρ' M) →
    (∀ ρ M, I (k + ds.length) ρ M → P.nx ρ M) → ∀ ρ M, I k ρ M → forR gd pb w ds P ρ M
  | [], k, _, he, ρ, M, h => he ρ M h
  | d :: ds, k, hb, he, ρ, M, h => hb 0 d rfl _ (fun ρ' M' h' => forR_ix I ds (k + 1) (fun i d' hd' F hF ρ2 M2 h2 => hb (i + 1) d' hd' F (fun ρ3 M3 h3 => hF ρ3 M3 (by
      have e : k + 1 + i + 1 = k + (i + 1) + 1 := by omega
      rw [e]; exact h3)) ρ2 M2 (by
      have e : k + (i + 1) = k + 1 + i := by omega
      rw [e]; exact h2)) (fun ρ2 M2 h2 => he ρ2 M2 (by
      have e : k + (d :: ds).length = k + 1 + ds.length := by rw [List.length_cons]; omega
      rw [e]; exact h2)) ρ' M' h') ρ M h
class SzB (n : outParam Nat) (i : Int) : Prop where
  h : i.natAbs < 2 ^ n
theorem SzB.of {n : Nat} {i : Int} (h0 : -(2 ^ n) < i) (h1 : i < 2 ^ n) : SzB n i := ⟨by
  have e : ((2 ^ n : Nat) : Int) = 2 ^ n := by rw [Int.natCast_pow]; rfl
  omega⟩
theorem SzB.mulX {i j : Int} {m n : Nat} (a : SzB m i) (b : SzB n j) (h : m + n ≤ 134217728 := by decide) : CMulX i j := cmul_of a.h b.h h
theorem SzB.bd {i : Int} {m : Nat} (a : SzB m i) (h : m ≤ 8000 := by decide) : Bd i := Nat.lt_of_lt_of_le a.h (Nat.pow_le_pow_right (by decide) h)
theorem SzB.log {i : Int} {m : Nat} (a : SzB m i) (h : m ≤ 8000 := by decide) : i.natAbs.log2 < 9000 := Nat.lt_trans (PySem.Flt.log2_lt_of (by decide) (a.bd h)) (by decide)
theorem SzB.mono {i : Int} {m n : Nat} (a : SzB m i) (h : m ≤ n) : SzB n i := ⟨Nat.lt_of_lt_of_le a.h (Nat.pow_le_pow_right (by decide) h)⟩
theorem SzB.le {i j : Int} {m : Nat} (a : SzB m j) (h : i.natAbs ≤ j.natAbs) : SzB m i := ⟨Nat.lt_of_le_of_lt h a.h⟩
instance SzB.mul {i j : Int} {m n : Nat} [a : SzB m i] [b : SzB n j] : SzB (m + n) (i * j) := ⟨by
  rw [Int.natAbs_mul, Nat.pow_add]
  exact Nat.mul_lt_mul'' a.h b.h⟩
theorem pow_max {x y m n : Nat} (h : x < 2 ^ m) (h' : y < 2 ^ n) : x + y < 2 ^ (max m n + 1) := by
  have h1 := Nat.pow_le_pow_right (show 0 < 2 by decide) (Nat.le_max_left m n)
  have h2 := Nat.pow_le_pow_right (show 0 < 2 by decide) (Nat.le_max_right m n)
  rw [Nat.pow_succ]
  omega
instance SzB.add {i j : Int} {m n : Nat} [a : SzB m i] [b : SzB n j] : SzB (max m n + 1) (i + j) := ⟨Nat.lt_of_le_of_lt (Int.natAbs_add_le i j) (pow_max a.h b.h)⟩
instance SzB.sub {i j : Int} {m n : Nat} [a : SzB m i] [b : SzB n j] : SzB (max m n + 1) (i - j) := ⟨Nat.lt_of_le_of_lt (by omega) (pow_max a.h b.h)⟩
instance SzB.neg {i : Int} {m : Nat} [a : SzB m i] : SzB m (-i) := ⟨by rw [Int.natAbs_neg]; exact a.h⟩
instance SzB.div {i j : Int} {m : Nat} [a : SzB m i] : SzB (m + 1) (i / j) := ⟨by
  have h := a.h
  have e : (i / j).natAbs ≤ i.natAbs + 1 := by
    have := Int.natAbs_ediv_le_natAbs i j
    omega
  rw [Nat.pow_succ]
  have : 0 < 2 ^ m := Nat.pow_pos (by decide)
  omega⟩
instance SzB.mod {i j : Int} {m n : Nat} [a : SzB m i] [b : SzB n j] : SzB (max m n + 1) (i % j) := ⟨by
  refine Nat.lt_of_le_of_lt ?_ (pow_max a.h b.h)
  by_cases c : j = 0
  · subst c
    rw [Int.emod_zero]
    omega
  · have h1 := Int.emod_nonneg i c
    have h2 := Int.emod_lt i c
    omega⟩
instance SzB.lit {k : Nat} : SzB (Nat.log2 k + 1) (no_index (OfNat.ofNat k) : Int) := ⟨by
  show (k : Int).natAbs < 2 ^ (Nat.log2 k + 1)
  rw [Int.natAbs_natCast]
  exact Nat.lt_log2_self⟩
instance SzB.pow {i : Int} {m k : Nat} [a : SzB m i] : SzB (m * k + 1) (i ^ k) := ⟨by
  rw [Int.natAbs_pow, Nat.pow_succ, Nat.pow_mul]
  have h1 : i.natAbs ^ k ≤ (2 ^ m) ^ k := Nat.pow_le_pow_left (Nat.le_of_lt a.h) k
  have h2 : 0 < (2 ^ m) ^ k := Nat.pow_pos (Nat.pow_pos (by decide))
  omega⟩
instance SzB.ite {p : Prop} [Decidable p] {i j : Int} {m n : Nat} [a : SzB m i] [b : SzB n j] : SzB (max m n) (if p then i else j) := ⟨by
  split
  · exact Nat.lt_of_lt_of_le a.h (Nat.pow_le_pow_right (by decide) (Nat.le_max_left m n))
  · exact Nat.lt_of_lt_of_le b.h (Nat.pow_le_pow_right (by decide) (Nat.le_max_right m n))⟩
end Px
set_option Elab.async false
set_option linter.all false
set_option maxRecDepth 100000
namespace Px
open PySem PySem.Spec PyProof.Rows L2
def Szb (i : Int) : Prop := -(10 ^ 60) ≤ i ∧ i ≤ 10 ^ 60
structure Shw (n w : Nat) (d : D) : Prop where
  ok : okD n d = true
  sh : PyData.showable (toPy d) = true
  lv : PyData.leavesShort 70 (toPy d) = true
  wt : PyData.weight (toPy d) ≤ w
structure ShwL (n w : Nat) (l : List D) : Prop where
  ok : l.all (okD n) = true
  sh : PyData.showableAll (toPyL l) = true
  lv : PyData.leavesShortAll 70 (toPyL l) = true
  wt : PyData.weightAll (toPyL l) ≤ w
theorem Shw.int {n : Nat} {i : Int} (h : Szb i) : Shw n 211 (.int i) := by
  have a : i.natAbs < 10 ^ 61 := by have := h.1; have := h.2; omega
  have a2 : i.natAbs < 2 ^ 210 := Nat.lt_of_le_of_lt (show i.natAbs ≤ 10 ^ 60 by have := h.1; have := h.2; omega) (by decide)
  refine ⟨by cases n <;> rfl, ?_, ?_, ?_⟩
  · show PyData.showable (.int i) = true
    simp only [PyData.showable]
    exact decide_eq_true (PySem.Flt.log2_lt_of (by decide) (Nat.lt_of_lt_of_le a2 (Nat.pow_le_pow_right (by decide) (by decide))))
  · have := int_text_length_le10 (a := i) (k := 61) (by decide) a
    show decide _ = true
    refine decide_eq_true ?_
    simp only [PyData.shown]
    rw [PySem.ofString_length]
    omega
  · have := PySem.Flt.log2_lt_of (by decide) a2
    show PyData.weight (.int i) ≤ 211
    simp only [PyData.weight]
    split <;> omega
theorem Shw.bl {n : Nat} {b : Bool} : Shw n 0 (.bl b) := ⟨by cases n <;> rfl, rfl, rfl, by show PyData.weight (.bool b) ≤ 0; simp [PyData.weight]⟩
theorem Shw.non {n : Nat} : Shw n 0 .non := ⟨by cases n <;> rfl, rfl, rfl, by show PyData.weight .none ≤ 0; simp [PyData.weight]⟩
theorem Shw.str {n w : Nat} {s : Str} (h1 : PyData.strOk s = true := by decide +kernel) (h2 : PyData.leavesShort 70 (.str s) = true := by decide +kernel) (h3 : PyData.weight (.str s) ≤ w := by decide +kernel) : Shw n w (.str s) := ⟨by cases n <;> exact h1, rfl, h2, h3⟩
theorem ShwL.nil {n : Nat} : ShwL n 0 [] := ⟨rfl, rfl, rfl, by simp [toPyL, PyData.weightAll]⟩
theorem ShwL.cons {n a b : Nat} {d : D} {l : List D} (h : Shw n a d) (k : ShwL n b l) : ShwL n (a + 1 + b) (d :: l) := by
  refine ⟨by rw [List.all_cons, h.ok, k.ok]; rfl, ?_, ?_, ?_⟩
  · show (PyData.showable (toPy d) && PyData.showableAll (toPyL l)) = true
    rw [h.sh, k.sh]; rfl
  · show (PyData.leavesShort 70 (toPy d) && PyData.leavesShortAll 70 (toPyL l)) = true
    rw [h.lv, k.lv]; rfl
  · show PyData.weight (toPy d) + 1 + PyData.weightAll (toPyL l) ≤ _
    have := h.wt; have := k.wt; omega
theorem ShwL.all {n w : Nat} : ∀ {l : List D}, (∀ d ∈ l, Shw n w d) → ShwL n ((w + 1) * l.length) l
  | [], _ => .nil
  | d :: r, h => by
    have := ShwL.cons (h d List.mem_cons_self) (ShwL.all fun x q => h x (List.mem_cons_of_mem _ q))
    have e : (w + 1) * (d :: r).length = w + 1 + (w + 1) * r.length := by rw [List.length_cons, Nat.mul_succ]; omega
    rw [e]; exact this
theorem Shw.tup {n w : Nat} {l : List D} (h : ShwL n w l) : Shw (n + 1) w (.tup l) := ⟨h.ok, h.sh, h.lv, h.wt⟩
theorem Shw.lst {n w : Nat} {l : List D} (h : ShwL n w l) : Shw (n + 1) w (.lst l) := ⟨h.ok, h.sh, h.lv, h.wt⟩
theorem okD_mono : ∀ (n m : Nat) (d : D), n ≤ m → okD n d = true → okD m d = true := by
  intro n
  induction n with
  | zero => intro m d _ h; cases d <;> first | (cases m <;> exact h) | (cases h)
  | succ n ih =>
    intro m d hm h
    cases m with
    | zero => omega
    | succ m =>
      cases d with
      | tup l =>
        have h : l.all (okD n) = true := h
        show l.all (okD m) = true
        rw [List.all_eq_true] at h ⊢
        exact fun x hx => ih m x (by omega) (h x hx)
      | lst l =>
        have h : l.all (okD n) = true := h
        show l.all (okD m) = true
        rw [List.all_eq_true] at h ⊢
        exact fun x hx => ih m x (by omega) (h x hx)
      | _ => first | exact h | cases h
theorem Shw.ok50 {n w : Nat} {d : D} (h : Shw n w d) (hn : n ≤ 50 := by decide) : okD 50 d = true := okD_mono n 50 d hn h.ok
theorem Shw.show {n w : Nat} {d : D} (h : Shw n w d) (hw : w ≤ 200000) : showOk (toPy d) := by
  refine ⟨h.sh, ?_⟩
  have h1 := PyData.shown_le 70 (by decide) _ h.lv
  have h2 := Nat.mul_le_mul_left (70 + 2) (Nat.le_trans h.wt hw)
  omega
theorem Shw.ints {n : Nat} {ns : List Int} (h : ∀ i ∈ ns, Szb i) : ShwL n (212 * ns.length) (ns.map .int) := by
  have := ShwL.all (n := n) (w := 211) (l := ns.map .int) fun d hd => by
    obtain ⟨i, hi, rfl⟩ := List.mem_map.mp hd
    exact .int (h i hi)
  rw [List.length_map] at this
  exact this
end Px
set_option Elab.async false
set_option linter.all false
set_option maxRecDepth 100000
namespace Px
open PySem PySem.Spec PyProof.Rows L2
mutual
theorem hash_nt (w w' : World) : ∀ k : NestedKey, ntK k = true → k.hash w = k.hash w'
  | .none, _ => rfl
  | .num _, _ => rfl
  | .text _, h => by cases h
  | .tup ks, h => by
    have e := hashes_nt w w' ks h
    show reduceHash (Builtin.Tuple.tupleHashOf (NestedKey.hashes w ks)) = reduceHash (Builtin.Tuple.tupleHashOf (NestedKey.hashes w' ks))
    rw [e]
theorem hashes_nt (w w' : World) : ∀ ks : List NestedKey, ntKL ks = true → NestedKey.hashes w ks = NestedKey.hashes w' ks
  | [], _ => rfl
  | k :: r, h => by
    have h : (ntK k && ntKL r) = true := h
    rw [Bool.and_eq_true] at h
    show k.hash w :: NestedKey.hashes w r = k.hash w' :: NestedKey.hashes w' r
    rw [hash_nt w w' k h.1, hashes_nt w w' r h.2]
end
mutual
theorem nt_nk : ∀ (d : D) (k : NestedKey), nkOf d = some k → ntK k = true
  | .non, _, h => by cases h; rfl
  | .bl _, _, h => by cases h; rfl
  | .int _, _, h => by cases h; rfl
  | .tup l, k, h => by
    have h : (nkOfL l).map NestedKey.tup = some k := h
    cases e : nkOfL l with
    | none => rw [e] at h; cases h
    | some ks => rw [e] at h; cases h; exact nt_nkL l ks e
  | .str _, _, h => by cases h
  | .lst _, _, h => by cases h
  | .dic _ _, _, h => by cases h
  | .obj _ _ _, _, h => by cases h
  | .raw _, _, h => by cases h
  | .scr _, _, h => by cases h
  | .clo _ _ _ _ _, _, h => by cases h
  | .fnc _ _ _ _, _, h => by cases h
  | .exv _ _ _ _ _, _, h => by cases h
theorem nt_nkL : ∀ (l : List D) (ks : List NestedKey), nkOfL l = some ks → ntKL ks = true
  | [], _, h => by cases h; rfl
  | d :: r, ks, h => by
    have h : (match nkOf d, nkOfL r with | some a, some b => some (a :: b) | _, _ => none) = some ks := h
    cases e1 : nkOf d with
    | none => rw [e1] at h; cases h
    | some a =>
      cases e2 : nkOfL r with
      | none => rw [e1, e2] at h; cases h
      | some b =>
        rw [e1, e2] at h
        cases h
        show (ntK a && ntKL b) = true
        rw [nt_nk d a e1, nt_nkL r b e2]; rfl
end
section
variable {X : Cx} {pins : List (Addr × Obj)} {σ : L2.St} {H F : Hp} {s : Shared}
mutual
theorem nested_is (I : Inv X pins σ H s) (sm : Same F H) : ∀ (d : D) (k : NestedKey) (v : V) (u : Value), nkOf d = some k → Rp X.K F d v → RelV v u → NestedIs s.heap k u
  | .non, k, v, u, h, r, rv => by
    cases h
    cases (show v = .non from r)
    cases (show u = .none from rv)
    exact .none
  | .bl b, k, v, u, h, r, rv => by
    cases h
    cases (show v = .bl b from r)
    cases (show u = .bool b from rv)
    exact .bool rfl
  | .int i, k, v, u, h, r, rv => by
    cases h
    cases (show v = .int i from r)
    obtain ⟨t, rfl⟩ := (show ∃ t, u = .int i t from rv)
    exact .int i t
  | .tup l, k, v, u, h, r, rv => by
    have h : (nkOfL l).map NestedKey.tup = some k := h
    cases e : nkOfL l with
    | none => rw [e] at h; cases h
    | some ks =>
      rw [e] at h
      cases h
      obtain ⟨a, xs, rfl, hs, rl⟩ := r
      cases (show u = .ref a from rv)
      obtain ⟨its, rvs, ⟨o, h1, h2, n, h3⟩, _⟩ := I.tuple (same_t sm hs)
      refine .tup h1 h2 h3 ?_
      exact nested_all I sm l ks xs its e rl rvs
  | .str _, _, _, _, h, _, _ => by cases h
  | .lst _, _, _, _, h, _, _ => by cases h
  | .dic _ _, _, _, _, h, _, _ => by cases h
  | .obj _ _ _, _, _, _, h, _, _ => by cases h
  | .raw _, _, _, _, h, _, _ => by cases h
  | .scr _, _, _, _, h, _, _ => by cases h
  | .clo _ _ _ _ _, _, _, _, h, _, _ => by cases h
  | .fnc _ _ _ _, _, _, _, h, _, _ => by cases h
  | .exv _ _ _ _ _, _, _, _, h, _, _ => by cases h
theorem nested_all (I : Inv X pins σ H s) (sm : Same F H) : ∀ (l : List D) (ks : List NestedKey) (xs : List V) (us : List Value), nkOfL l = some ks → RpL X.K F l xs → Vals xs us → NestedAll s.heap ks us
  | [], _, xs, us, h, r, rv => by
    cases h
    cases (show xs = [] from r)
    cases rv
    exact .nil
  | d :: l, ks, xs, us, h, r, rv => by
    have h : (match nkOf d, nkOfL l with | some a, some b => some (a :: b) | _, _ => none) = some ks := h
    obtain ⟨x, r', rfl, r1, r2⟩ := r
    cases rv with
    | cons q1 q2 =>
      cases e1 : nkOf d with
      | none => rw [e1] at h; cases h
      | some a =>
        cases e2 : nkOfL l with
        | none => rw [e1, e2] at h; cases h
        | some b =>
          rw [e1, e2] at h
          cases h
          exact .cons (nested_is I sm d a x _ e1 r1 q1) (nested_all I sm l b _ _ e2 r2 q2)
end
theorem dk_is (I : Inv X pins σ H s) (sm : Same F H) {p : Addr} {kvs : List (D × D)} {xs : KEnts} (e : H p = some (dkO p xs)) (r : DRel X.K F kvs xs) :
    (p == sysModules) = false ∧ s.heap.DictOfH (nestedKind X.prog X.w) p xs := by
  obtain ⟨⟨h1, h2, h3, o, es, ep, h4, h5, h6, h7⟩, _, _⟩ := (show ObjOk X.prog X.w H s.heap p (dkO p xs) from I.hok p _ e)
  refine ⟨h1, o, es, ep, h4, h5, h6, h7 X.w, ?_, h3⟩
  have all : ∀ {kvs : List (D × D)} {xs : KEnts}, DRel X.K F kvs xs → ∀ x ∈ xs, (nestedKind X.prog X.w).is s.heap x.1 x.2.1 := by
    intro kvs
    induction kvs with
    | nil => intro xs r x hx; rw [show xs = [] from r] at hx; cases hx
    | cons p r ih =>
      intro xs q x hx
      obtain ⟨y, ys, v, rfl, e2, e3, e4, e5, e6, e7⟩ := q
      rcases List.mem_cons.mp hx with rfl | hx
      · exact ⟨nested_is I sm p.1 _ _ _ e2 e4 rfl, e3⟩
      · exact ih e7 x hx
  exact all r
theorem dk_ok {P : Program} {w : World} {H : Hp} {h : Heap} {p : Addr} {xs : KEnts} (hx : dkP p xs h) : ObjOk P w H h p (dkO p xs) := by
  obtain ⟨h1, h2, h3, o, es, ep, h4, h5⟩ := id hx
  refine ⟨hx, ⟨o, h4⟩, ?_⟩
  rintro g1 g2 ⟨h1, h2, h3, o, es, ep, h4, h5⟩ k
  exact ⟨h1, h2, h3, o, es, ep, k _ h4, h5⟩
end
def sameK (k : NestedKey) (p : D × D) : Bool := decide (nkOf p.1 = some k)
def hasK (kvs : List (D × D)) (k : NestedKey) : Bool := kvs.any (sameK k)
def lookK (kvs : List (D × D)) (k : NestedKey) : Option D := (kvs.find? (sameK k)).map (·.2)
def putD (kvs : List (D × D)) (d v : D) (k : NestedKey) : List (D × D) := if hasK kvs k = true then kvs.map fun p => if sameK k p = true then (p.1, v) else p else kvs ++ [(d, v)]
theorem putD_len (kvs : List (D × D)) (d v : D) (k : NestedKey) : (putD kvs d v k).length ≤ kvs.length + 1 := by
  unfold putD; split <;> simp
section
variable {K : PySem.W.Frag} {F : Hp}
theorem drel_len : ∀ {kvs : List (D × D)} {xs : KEnts}, DRel K F kvs xs → kvs.length = xs.length
  | [], xs, h => by rw [show xs = [] from h]; rfl
  | p :: r, _, ⟨x, ys, v, e, _, _, _, _, _, h⟩ => by rw [e, List.length_cons, List.length_cons, drel_len h]
theorem drel_key : ∀ {kvs : List (D × D)} {xs : KEnts} (k : NestedKey), DRel K F kvs xs → (atKey xs k).isSome = hasK kvs k
  | [], xs, k, h => by rw [show xs = [] from h]; rfl
  | p :: r, _, k, ⟨x, ys, v, e, e1, _, _, _, _, h⟩ => by
    have ih := drel_key k h
    unfold atKey at ih ⊢
    unfold hasK at ih ⊢
    rw [e, List.find?_cons, List.any_cons, ← ih]
    unfold sameK
    rw [e1]
    by_cases c : x.1 = k
    · simp [c]
    · simp [c]
theorem drel_look : ∀ {kvs : List (D × D)} {xs : KEnts} (k : NestedKey) {d : D}, DRel K F kvs xs → lookK kvs k = some d → ∃ y, atKey xs k = some y ∧ ∃ v, Rp K F d v ∧ RelV v y.2
  | [], xs, k, d, h, e => by cases e
  | p :: r, _, k, d, ⟨x, ys, v, e, e1, _, _, e4, e5, h⟩, hd => by
    unfold lookK at hd
    unfold atKey
    rw [e, List.find?_cons]
    rw [List.find?_cons] at hd
    have sk : sameK k p = decide (x.1 = k) := by unfold sameK; rw [e1]; simp
    rw [sk] at hd
    by_cases c : x.1 = k
    · rw [decide_eq_true c] at hd ⊢
      cases hd
      exact ⟨_, rfl, v, e4, e5⟩
    · rw [decide_eq_false c] at hd ⊢
      have := drel_look (kvs := r) (xs := ys) k (d := d) h hd
      exact this
theorem drel_app : ∀ {kvs ls : List (D × D)} {xs ys : KEnts}, DRel K F kvs xs → DRel K F ls ys → DRel K F (kvs ++ ls) (xs ++ ys)
  | [], _, _, _, h, q => by rw [show _ = [] from h]; exact q
  | p :: r, _, _, _, ⟨x, zs, v, e, e1, e2, e3, e4, e5, h⟩, q => by rw [e]; exact ⟨x, _, v, rfl, e1, e2, e3, e4, e5, drel_app h q⟩
theorem drel_set {v : D} {k : NestedKey} {w : V} {u : Value} (hv : Rp K F v w) (hu : RelV w u) : ∀ {kvs : List (D × D)} {xs : KEnts}, DRel K F kvs xs → DRel K F (kvs.map fun p => if sameK k p = true then (p.1, v) else p) (xs.map (putAt k u))
  | [], _, h => by rw [show _ = [] from h]; exact rfl
  | p :: r, _, ⟨x, zs, w', e, e1, e2, e3, e4, e5, h⟩ => by
    have sk : sameK k p = decide (x.1 = k) := by unfold sameK; rw [e1]; simp
    rw [e, List.map_cons, List.map_cons, sk]
    unfold putAt
    by_cases c : x.1 = k
    · rw [if_pos c, decide_eq_true c]
      exact ⟨_, _, w, rfl, e1, e2, e3, hv, hu, drel_set hv hu h⟩
    · rw [if_neg c, decide_eq_false c]
      exact ⟨_, _, w', rfl, e1, e2, e3, e4, e5, drel_set hv hu h⟩
theorem drel_put {kvs : List (D × D)} {xs : KEnts} {d v : D} {k : NestedKey} {a : Addr} {w : V} {u : Value} (h : DRel K F kvs xs) (hk : nkOf d = some k) (hd : k.depth ≤ 8) (rd : Rp K F d (.ref a)) (hv : Rp K F v w) (hu : RelV w u) : DRel K F (putD kvs d v k) (storedH xs k a u) := by
  unfold putD storedH
  rw [drel_key k h]
  cases hasK kvs k with
  | true => rw [if_pos rfl, if_pos rfl]; exact drel_set hv hu h
  | false => rw [if_neg (by simp), if_neg (by simp)]; exact drel_app h ⟨_, _, w, rfl, hk, hd, rd, hv, hu, rfl⟩
end
def asDct (d : D) (M : Mm) (f : Addr → List (D × D) → Prop) : Prop := match d with
  | .raw (.ref a) => match M a with | some (.dct kvs) => f a kvs | _ => False
  | _ => False
theorem asDct_of {d : D} {M : Mm} {f : Addr → List (D × D) → Prop} (h : asDct d M f) : ∃ a kvs, d = .raw (.ref a) ∧ M a = some (.dct kvs) ∧ f a kvs := by
  unfold asDct at h
  split at h
  · rename_i a
    split at h
    · rename_i kvs e
      exact ⟨a, kvs, rfl, e, h⟩
    · exact h.elim
  · exact h.elim
def asKey (d : D) (f : NestedKey → Prop) : Prop := match d with
  | .tup l => match nkOf (.tup l) with | some k => k.depth ≤ 8 ∧ f k | none => False
  | _ => False
theorem asKey_of {d : D} {f : NestedKey → Prop} (h : asKey d f) : ∃ l k, d = .tup l ∧ nkOf d = some k ∧ k.depth ≤ 8 ∧ f k := by
  unfold asKey at h
  split at h
  · rename_i l
    split at h
    · rename_i k e
      exact ⟨l, k, rfl, e, h⟩
    · exact h.elim
  · exact h.elim
section
variable {K : PySem.W.Frag} {g : Gh} {σ : L2.St} {H : Hp} {ρ : Rho} {M : Mm} {F : Hp} {O : Own} {p : Addr} {o : HO} {mo mo' : Mo}
theorem Ab.newMo (A : Ab K g σ H ρ M F O) (h : H p = none) (hm : MoOk K F (upd H p o) (fun b => if b = p then some (.obj p) else O b) p mo) : Ab K g σ (upd H p o) ρ (updM M p mo) F (fun b => if b = p then some (.obj p) else O b) := by
  have A1 := A.laid (o := o) h
  have hO := A.o0 h
  have keep : ∀ b u, O b = some u → (if b = p then some (Ow.obj p) else O b) = some u := fun b u e => by rw [if_neg (fun z => by rw [z, hO] at e; cases e)]; exact e
  exact { sub := A1.sub, ext0 := A1.ext0, new := A1.new, frm := A1.frm, thr := A1.thr
          liv := fun b u e => by
            by_cases z : b = p
            · subst z; exact ⟨⟨_, upd_same⟩, A.f0 h, .inr (A.g0 h)⟩
            · rw [if_neg z] at e; exact A1.liv b u e
          slo := fun b u e n => by
            by_cases z : b = p
            · rw [if_pos z] at e; exact absurd (Option.some.inj e).symm (n p)
            · rw [if_neg z] at e; exact A1.slo b u e n
          tm := fun q l e => by
            obtain ⟨xs, e1, e2, e3⟩ := A1.tm q l e
            exact ⟨xs, e1, e2, keep q _ e3⟩
          mu := fun b m e => by
            by_cases z : b = p
            · subst z
              have e' : m = mo := (Option.some.inj ((if_pos rfl).symm.trans (show (if b = b then some mo else M b) = some m from e))).symm
              subst e'
              exact hm
            · have e' : M b = some m := by
                have := e
                unfold updM at this
                rw [if_neg z] at this
                exact this
              exact (A1.mu b m e').mono (Same.refl F) fun q u e1 e2 => ⟨e1, keep q _ e2⟩
          len := A1.len
          sl := fun j sv e => by
            obtain ⟨v, e1, r⟩ := A1.sl j sv e
            exact ⟨v, e1, r.mono (Same.refl F) fun q xs e1 e2 => ⟨e1, keep q _ e2⟩⟩ }
theorem Ab.setMo (A : Ab K g σ H ρ M F O) (hM : M p = some mo) (hO : O p = some (.obj p)) (hm : MoOk K F (upd H p o) O p mo') : Ab K g σ (upd H p o) ρ (updM M p mo') F O := by
  obtain ⟨⟨x, hx⟩, hF, hg⟩ := A.liv p _ hO
  have ne : ∀ b u, O b = some u → u ≠ .obj p → b ≠ p := fun b u e n z => by rw [z, hO] at e; exact n (Option.some.inj e).symm
  exact { sub := fun b u e => by rw [upd_ne (fun z => by rw [z, hF] at e; cases e)]; exact A.sub b u e
          ext0 := A.ext0, new := A.new
          frm := fun b u e n => by
            rw [upd_ne]
            · exact A.frm b u e n
            · intro z
              subst z
              rcases hg with y | y
              · exact n y
              · rw [e] at y; cases y
          thr := fun b u e => by
            by_cases z : b = p
            · subst z; exact ⟨_, upd_same⟩
            · rw [upd_ne z]; exact A.thr b u e
          liv := fun b u e => by
            obtain ⟨r1, r2⟩ := A.liv b u e
            refine ⟨?_, r2⟩
            by_cases z : b = p
            · subst z; exact ⟨_, upd_same⟩
            · rw [upd_ne z]; exact r1
          slo := A.slo
          tm := fun q l e => by
            obtain ⟨xs, e1, e2, e3⟩ := A.tm q l e
            exact ⟨xs, by rw [upd_ne (ne q _ e3 (fun z => by cases z))]; exact e1, e2, e3⟩
          mu := fun b m e => by
            by_cases z : b = p
            · subst z
              have e' : m = mo' := (Option.some.inj ((if_pos rfl).symm.trans (show (if b = b then some mo' else M b) = some m from e))).symm
              subst e'
              exact hm
            · have e' : M b = some m := by
                have := e
                unfold updM at this
                rw [if_neg z] at this
                exact this
              exact (A.mu b m e').mono (Same.refl F) fun q u e1 e2 => ⟨by rw [upd_ne (ne q _ e2 (fun y => z (by cases y; rfl)))]; exact e1, e2⟩
          len := A.len
          sl := fun j sv e => by
            obtain ⟨v, e1, r⟩ := A.sl j sv e
            exact ⟨v, e1, r.mono (Same.refl F) fun q xs e1 e2 => ⟨by rw [upd_ne (ne q _ e2 (fun z => by cases z))]; exact e1, e2⟩⟩ }
end
def tNewN : TE := fun _ H Q => ∀ p, H p = none → Q (.ref p) (upd H p (dkO p []))
def rInN (K : PySem.W.Frag) (neg : Bool) : R2 := fun x y H Q => ∃ F p kvs xs d k a, y = .ref p ∧ x = .ref a ∧ Same F H ∧ H p = some (dkO p xs) ∧ DRel K F kvs xs ∧ nkOf d = some k ∧ k.depth ≤ 8 ∧ Rp K F d x ∧ Q (.bl (if neg then !hasK kvs k else hasK kvs k)) H
def rGetN (K : PySem.W.Frag) : R2 := fun y x H Q => ∃ F p kvs xs d k a z, y = .ref p ∧ x = .ref a ∧ Same F H ∧ H p = some (dkO p xs) ∧ DRel K F kvs xs ∧ nkOf d = some k ∧ k.depth ≤ 8 ∧ Rp K F d x ∧ lookK kvs k = some z ∧ ∀ v, Rp K F z v → Q v H
def rSetN (K : PySem.W.Frag) : TSet := fun y x v H Q => ∃ F p kvs xs d k a dv, y = .ref p ∧ x = .ref a ∧ Same F H ∧ H p = some (dkO p xs) ∧ DRel K F kvs xs ∧ nkOf d = some k ∧ k.depth ≤ 8 ∧ Rp K F d x ∧ Rp K F dv v ∧ kvs.length < 1000000 ∧
  ∀ xs', DRel K F (putD kvs d dv k) xs' → Q (upd H p (dkO p xs'))
section
variable {X : Cx} {W : WX} {a b e : Expr} {pa pb pe : PTE} {pos : Pos}
theorem pe_newN : PE X (.Dict [] [] pos) tNewN := ⟨fun pins s σ H Q I h =>
  wpAny_Dict_empty ⟨.ref s.heap.objs.size, _, I.laid (a := s.heap.objs.size) (o := dkO s.heap.objs.size []) (t' := s.toks) (fun _ _ q => Heap.get?_push_of_some _ q) (Nat.le_refl _)
    (dk_ok ⟨beq_eq_false_iff_ne.mpr (Ne.symm (Nat.ne_of_lt I.big)), fun _ z => (nomatch z), List.nodup_nil, _, #[], 0, Heap.get?_push_size _ rfl, ⟨rfl, rfl, rfl⟩, rfl, fun _ => rfl⟩), rfl, h _ (I.hok.fresh (Nat.le_refl _))⟩⟩
theorem room_n {prog : Program} {w : World} {A : Around} (hu : A.units + 9 < cLine) : (nestedKind prog w).room A.in1 := by
  show A.units + 1 + 8 < cLine
  omega
theorem op_notInN (hu : X.A.units + 9 < cLine) : OpR X (compareOp .NotIn) (rInN X.K true) := by
  intro pins s σ H x y v u Q I rx ry h
  obtain ⟨F, p, kvs, xs, d, k, c, rfl, rfl, sm, e, dr, hk, hd, rd, q⟩ := h
  cases (show v = .ref c from rx)
  cases (show u = .ref p from ry)
  obtain ⟨z1, z2⟩ := dk_is I sm e dr
  refine wpAny_notIn_heap (room_n hu) ⟨nested_is I sm d k _ _ hk rd rfl, hd⟩ z1 z2 ?_
  rw [drel_key k dr]
  exact ⟨.bl (!hasK kvs k), H, I.tok _, rfl, q⟩
theorem ix_N (hu : X.A.units + 9 < cLine) : IxR X (rGetN X.K) := by
  intro value slice pins s σ H y x v u Q I ry rx h hs
  obtain ⟨F, p, kvs, xs, d, k, c, z, rfl, rfl, sm, e, dr, hk, hd, rd, hl, q⟩ := h
  cases (show u = .ref c from rx)
  cases (show v = .ref p from ry)
  obtain ⟨z1, z2⟩ := dk_is I sm e dr
  obtain ⟨w, hw, t, rt, rtw⟩ := drel_look k dr hl
  exact subscriptTail_builtinR (x := w.2) z2.typeIs PySem.F.slot_dict_getitem.lookup
    (wpAny_getItem_heap (Q := fun r s' => r = w.2 ∧ EP X pins σ Q r s') (room_n hu) ⟨nested_is I sm d k _ _ hk rd rfl, hd⟩ z2 hw ⟨rfl, t, H, I.tok _, rtw, q t rt⟩) hs
theorem set_N (hu : X.A.units + 9 < cLine) : PSet X (rSetN X.K) := by
  intro pins s σ H y x v ov iv u Q I ry rx rv h
  obtain ⟨F, p, kvs, xs, d, k, c, dv, rfl, rfl, sm, e, dr, hk, hd, rd, rdv, hl, q⟩ := h
  cases (show iv = .ref c from rx)
  cases (show ov = .ref p from ry)
  obtain ⟨z1, z2⟩ := dk_is I sm e dr
  have hz : xs.length ≤ sizeLine := by rw [← drel_len dr]; exact Nat.le_trans (Nat.le_of_lt hl) (by decide)
  refine wpAny_setItem_heap (hsz := hz) (room_n hu) ⟨nested_is I sm d k _ _ hk rd rfl, hd⟩ z2 fun h' dd' hs => ?_
  obtain ⟨o, es, ep, hq, h2, h3, h4, h6, h5⟩ := dd'
  have dr' := drel_put dr hk hd rd rdv rv
  refine ⟨upd H p (dkO p (storedH xs k c u)), d_write I (by rw [e]; exact True.intro) hs ⟨o, hq⟩ (dk_ok ⟨z1, ?_, h5, o, es, ep, hq, h2, h3, fun w' => ?_⟩), q _ dr'⟩
  · have all : ∀ {kvs : List (D × D)} {xs : KEnts}, DRel X.K F kvs xs → ∀ x ∈ xs, ntK x.1 = true := by
      intro kvs
      induction kvs with
      | nil => intro xs r x hx; rw [show xs = [] from r] at hx; cases hx
      | cons p r ih =>
        intro xs q x hx
        obtain ⟨y, ys, v, rfl, e2, e3, e4, e5, e6, e7⟩ := q
        rcases List.mem_cons.mp hx with rfl | hx
        · exact nt_nk _ _ e2
        · exact ih e7 x hx
    exact all dr'
  · have all : ∀ {kvs : List (D × D)} {xs : KEnts}, DRel X.K F kvs xs → ∀ x ∈ xs, ntK x.1 = true := by
      intro kvs
      induction kvs with
      | nil => intro xs r x hx; rw [show xs = [] from r] at hx; cases hx
      | cons p r ih =>
        intro xs q x hx
        obtain ⟨y, ys, v, rfl, e2, e3, e4, e5, e6, e7⟩ := q
        rcases List.mem_cons.mp hx with rfl | hx
        · exact nt_nk _ _ e2
        · exact ih e7 x hx
    rw [h4]
    refine List.map_congr_left fun y hy => ?_
    show (⟨y.1.hash X.w, .ref y.2.1, y.2.2⟩ : DictEntry) = _
    rw [hash_nt X.w w' _ (all dr' y hy)]
def dNewN : PTE := fun _ _ M q => ∀ a, M a = none → q (.raw (.ref a)) (updM M a (.dct []))
theorem de_newN : DE X W (.Dict [] [] pos) dNewN := pe_imp pe_newN fun σ H Q hE => hE.el fun g ρ M F O q w A p hw k => fun c hc => by
  have A2 := A.newMo (o := dkO c []) (mo := .dct []) hc ⟨[], upd_same, if_pos rfl, Nat.zero_le _, rfl⟩
  exact k (.ref c) _ F _ _ (.raw (.ref c)) A2 (Same.refl F) rfl (p c (A.m0 hc))
def dInN (neg : Bool) (pa pb : PTE) : PTE := fun w ρ M q => pa w ρ M fun x M1 => pb w ρ M1 fun y M2 => asDct y M2 fun _ kvs => asKey x fun k => q (.bl (if neg then !hasK kvs k else hasK kvs k)) M2
theorem Vw.tupR {K : PySem.W.Frag} {σ : L2.St} {ρ : Rho} {F : Hp} {l : List D} {v : V} (h : Vw K σ ρ F (.tup l) v) : Rp K F (.tup l) v := by
  rcases h with h | ⟨_, _, _, _, _, _, h⟩
  · exact h
  · cases h
theorem Vw.rawR {K : PySem.W.Frag} {σ : L2.St} {ρ : Rho} {F : Hp} {u v : V} (h : Vw K σ ρ F (.raw u) v) : v = u := by
  rcases h with h | ⟨_, _, _, _, _, _, h⟩
  · exact h
  · cases h
theorem inN_run {neg : Bool} {σ : L2.St} {H : Hp} {Q : VK} (h : real X.K W (dInN neg pa pb) σ H Q) : tOp (rInN X.K neg) (realO X.K W pa) (realO X.K W pb) σ H Q := by
  obtain ⟨g, ρ, M, F, O, q, w, A, p, hw, k⟩ := h
  refine (.mk A p hw (fun v H1 F1 O1 M1 d A1 s1 r1 q1 => (.mk A1 q1 (hw.mono s1) (fun u H2 F2 O2 M2 y A2 s2 r2 q2 => ?_))))
  obtain ⟨c, kvs, rfl, hM, q3⟩ := asDct_of q2
  obtain ⟨l, nk, rfl, hk, hd, q4⟩ := asKey_of q3
  obtain ⟨xs, e1, e2, e3, e4⟩ := A2.mu c _ hM
  have rt := (r1.mono s2).tupR
  obtain ⟨b, ys, eb, _⟩ := id rt
  exact ⟨F2, c, kvs, xs, .tup l, nk, b, r2.rawR, eb, A2.sub, e1, e4, hk, hd, rt, k _ H2 F2 O2 M2 (.bl (if neg then !hasK kvs nk else hasK kvs nk)) A2 (s1.trans s2) rfl q4⟩
theorem dt_notinN (hu : X.A.units + 9 < cLine) (ha : DO X W a pa) (hb : DO X W b pb) (hm : behindInMarks .NotIn b = false := by rfl) : DT X W (.Compare a [.NotIn] [b] pos) (dTst (dInN true pa pb)) :=
  pt_imp (pt_cmpR (op_notInN hu) ha hb hm) fun σ H Q h => tst_run (t := tOp (rInN X.K true) (realO X.K W pa) (realO X.K W pb)) (fun _ _ _ h => inN_run h) h
def dGetN (pb pa : PTE) : PTE := fun w ρ M q => pb w ρ M fun y M1 => pa w ρ M1 fun x M2 => asDct y M2 fun _ kvs => asKey x fun k => ∃ z, lookK kvs k = some z ∧ q z M2
theorem de_getN (hu : X.A.units + 9 < cLine) (hb : DO X W b pb) (ha : DO X W a pa) (hs : PlainIx a := by exact fun _ _ => rfl) : DE X W (.Subscript b a pos) (dGetN pb pa) := pe_imp (pe_ix (ix_N hu) hb ha hs) fun σ H Q hE => hE.el fun g ρ M F O q w A p hw k => by
  refine (.mk A p hw (fun v H1 F1 O1 M1 y A1 s1 r1 q1 => (.mk A1 q1 (hw.mono s1) (fun u H2 F2 O2 M2 d A2 s2 r2 q2 => ?_))))
  obtain ⟨c, kvs, rfl, hM, q3⟩ := asDct_of q2
  obtain ⟨l, nk, rfl, hk, hd, z, hz, q4⟩ := asKey_of q3
  obtain ⟨xs, e1, e2, e3, e4⟩ := A2.mu c _ hM
  have rt := r2.tupR
  obtain ⟨b', ys, eb, _⟩ := id rt
  exact ⟨F2, c, kvs, xs, .tup l, nk, b', z, (r1.mono s2).rawR, eb, A2.sub, e1, e4, hk, hd, rt, hz, fun v rv => k _ H2 F2 O2 M2 _ A2 (s1.trans s2) rv q4⟩
def dPutN (pv pb pa : PTE) : PTS := fun w P ρ M => pv w ρ M fun v M1 => pb w ρ M1 fun y M2 => pa w ρ M2 fun x M3 => asDct y M3 fun c kvs => asKey x fun k => kvs.length < 1000000 ∧ P.nx ρ (updM M3 c (.dct (putD kvs x v k)))
theorem ds_putN {pt : Pos} (hu : X.A.units + 9 < cLine) (he : DE X W e pe) (hb : DO X W b pb) (ha : DO X W a pa) (hs : swapsWithSole [.Subscript b a pt] e pos.line X.env = pure false := by rfl) (hw : swappedStores [.Subscript b a pt] e X.env = pure none := by rfl)
    (hA : ∀ v, assign (.Subscript b a pt) X.env v = (do
      let ov ← holding [v] (eval b X.env)
      let iv ← holding [v, ov] (eval a X.env)
      standAt pt
      holding [v, ov, iv] (setItem ov iv v)
      release [v, ov, iv] []) := by intro _; rfl) : DS X W (.Assign [.Subscript b a pt] e pos) (dPutN pe pb pa) := by
  refine ps_imp (ps_asg he (pg_sub hb ha (set_N hu) hA) hs hw) fun D σ H ⟨g, ρ, M, F, O, P, w, A, h, hw, k1, k2, k3, k4⟩ => ?_
  refine (.mk A h hw (fun v H1 F1 O1 M1 dv A1 s1 r1 q1 => (.mk A1 q1 (hw.mono s1) (fun y' H2 F2 O2 M2 y A2 s2 r2 q2 => (.mk A2 q2 ((hw.mono s1).mono s2) (fun x' H3 F3 O3 M3 x A3 s3 r3 q3 => ?_))))))
  obtain ⟨c, kvs, rfl, hM, q3⟩ := asDct_of q3
  obtain ⟨l, nk, rfl, hk, hd, hl, q4⟩ := asKey_of q3
  obtain ⟨xs, e1, e2, e3, e4⟩ := A3.mu c _ hM
  have rt := r3.tupR
  obtain ⟨b', ys, eb, _⟩ := id rt
  refine ⟨F3, c, kvs, xs, .tup l, nk, b', dv, (r2.mono s3).rawR, eb, A3.sub, e1, e4, hk, hd, rt, Rp.mono (s2.trans s3) _ _ r1, hl, fun xs' dr' => ?_⟩
  have A4 := A3.setMo (o := dkO c xs') (mo' := .dct (putD kvs (.tup l) dv nk)) hM e2 ⟨xs', upd_same, e2, by have := putD_len kvs (.tup l) dv nk; omega, dr'⟩
  exact k1 σ _ ρ _ F3 O3 A4 ((s1.trans s2).trans s3) q4
end
theorem hu9 {A : Around} {k : Nat} (hr : Room k A) : A.units + 9 < cLine := by have := hr.units; omega
end Px
set_option Elab.async false
set_option linter.all false
set_option maxRecDepth 100000
namespace Px
open PySem PySem.Spec PyProof.Rows L2
abbrev PSpL := List D → Mm → (List D → Mm → Prop) → PX → Prop
section
variable {P : Program} {w : World} {K : PySem.W.Frag} {mg : Str → Option Value} {base : Heap} {k : Nat} {f : Addr} {fd : FuncData} {ps N : List Str}
end
section
variable {X : Cx} {W : WX} {k n : Nat} {f : Addr} {fd : FuncData} {ps ks : List Str} {sp : PSpL} {x : Str} {p pos : Pos} {e : Expr} {es : List Expr} {pl : PTA} {ds : List Value} {dd : List D} {dvs : List V} {kws : List Keyword} {ix : List Nat} {i : Nat}
theorem Ab.drop {K : PySem.W.Frag} {g : Gh} {σ : L2.St} {H : Hp} {ρ : Rho} {M : Mm} {F : Hp} {O : Own} {ds : List D} (A : Ab K g σ H ρ M F O) (hi : gt ρ i = some (.own ds)) :
    ∃ l xs O', σ[i]? = some (some (.ref l)) ∧ H l = some (.lst xs) ∧ RpL K F ds xs ∧ F l = none ∧ O' l = none ∧ g.H0 l = none ∧ Ab K g σ H (un ρ i) M F O' := by
  obtain ⟨v, e1, l, xs, rfl, e3, e4, e5⟩ := A.sl i _ hi
  obtain ⟨_, hFl, _⟩ := A.liv l _ e5
  have h0l : g.H0 l = none := A.slo l _ e5 (fun _ z => by cases z)
  refine ⟨l, xs, fun b => if b = l then none else O b, e1, e3, e4, hFl, if_pos rfl, h0l, ?_⟩
  have keep : ∀ b u, O b = some u → u ≠ .slot i → (if b = l then none else O b) = some u := fun b u e n => by
    rw [if_neg]
    · exact e
    · intro z
      rw [z, e5] at e; exact n (Option.some.inj e).symm
  exact { sub := A.sub, ext0 := A.ext0, new := A.new, frm := A.frm, thr := A.thr
          liv := fun b u e => by
            by_cases z : b = l
            · rw [if_pos z] at e; cases e
            · rw [if_neg z] at e; exact A.liv b u e
          slo := fun b u e n => by
            by_cases z : b = l
            · rw [if_pos z] at e; cases e
            · rw [if_neg z] at e; exact A.slo b u e n
          tm := fun q l2 e => by
            obtain ⟨ys, e1, e2, e3⟩ := A.tm q l2 e
            exact ⟨ys, e1, e2, keep q _ e3 (fun z => by cases z)⟩
          mu := fun b m e => (A.mu b m e).mono (Same.refl F) fun q u e1 e2 => ⟨e1, keep q _ e2 (fun z => by cases z)⟩
          len := by rw [un_len]; exact A.len
          sl := fun j sv e => by
            by_cases z : j = i
            · subst z; rw [gt_un_self] at e; cases e
            · rw [gt_un_ne z] at e
              obtain ⟨v, e1, r⟩ := A.sl j sv e
              exact ⟨v, e1, r.mono (Same.refl F) fun q xs e1 e2 => ⟨e1, keep q _ e2 (fun y => z (by cases y; rfl))⟩⟩ }
end
end Px
set_option Elab.async false
set_option linter.all false
set_option maxRecDepth 100000
namespace Px
open PySem PySem.Spec PyProof.Rows L2
section
variable {B : Cx} {tg elt iter : Expr} {ifs : List Expr} {scope : Scope} {pos : Pos} {g : TG} {tt : TT} {te : TE} {vs : List Nat} {σ : L2.St} {J : It} {D it : Addr} {fp : List Addr} {tn : Nat → Heap → Prop} {Q : Hp → Prop} {W : Nat → Nat → Hp → Prop}
end
section
variable {X : Cx}
end
end Px
set_option Elab.async false
set_option linter.all false
set_option maxRecDepth 100000
namespace Px
open PySem PySem.Spec PyProof.Rows L2
def Gh.here (g : Gh) (H F : Hp) (O : Own) : Gh where
  H0 := fun a => match O a with
    | none => H a
    | some (.obj _) => H a
    | some _ => none
  F0 := F
  own0 := fun a => ∃ m, O a = some (.obj m)
  tmp := g.tmp
section
variable {K : PySem.W.Frag} {g : Gh} {σ σ' : L2.St} {H H' F F' : Hp} {ρ ρ' : Rho} {M M' : Mm} {O O' : Own} {D : Addr} {o : HO}
theorem here_none (A : Ab K g σ H ρ M F O) {a : Addr} (e : (g.here H F O).H0 a = none) : g.H0 a = none := by
  unfold Gh.here at e
  dsimp only at e
  cases h : g.H0 a with
  | none => rfl
  | some u =>
    obtain ⟨u', hu⟩ := A.thr a u h
    cases ho : O a with
    | none => rw [ho, hu] at e; cases e
    | some w => cases w with
      | obj m => rw [ho, hu] at e; cases e
      | slot i => rw [A.slo a _ ho fun m z => by cases z] at h; cases h
      | tmp => rw [A.slo a _ ho fun m z => by cases z] at h; cases h
theorem here_some (A : Ab K g σ H ρ M F O) {a : Addr} {u : HO} (e : g.H0 a = some u) (n : ¬ g.own0 a) : (g.here H F O).H0 a = some u ∧ ¬ (g.here H F O).own0 a := by
  have h := A.frm a u e n
  have hO : O a = none := by
    cases ho : O a with
    | none => rfl
    | some w => rcases (A.liv a w ho).2.2 with z | z
                · exact absurd z n
                · rw [e] at z; cases z
  unfold Gh.here
  dsimp only
  rw [hO]
  exact ⟨h, fun ⟨m, z⟩ => by cases z⟩
theorem Ab.here (A : Ab K g σ H ρ M F O) : Ab K (g.here H F O) σ H ρ M F O :=
  { sub := A.sub, ext0 := Same.refl F, new := fun a u e => .inl e
    frm := fun a u e n => by
      unfold Gh.here at e
      dsimp only at e
      cases ho : O a with
      | none => rw [ho] at e; exact e
      | some w => cases w with
        | obj m => rw [ho] at e; exact e
        | slot i => rw [ho] at e; cases e
        | tmp => rw [ho] at e; cases e
    thr := fun a u e => by
      unfold Gh.here at e
      dsimp only at e
      cases ho : O a with
      | none => rw [ho] at e; exact ⟨u, e⟩
      | some w => cases w with
        | obj m => rw [ho] at e; exact ⟨u, e⟩
        | slot i => rw [ho] at e; cases e
        | tmp => rw [ho] at e; cases e
    liv := fun a w e => ⟨(A.liv a w e).1, (A.liv a w e).2.1, by
      unfold Gh.here
      dsimp only
      rw [e]
      cases w with
      | obj m => exact .inl ⟨m, rfl⟩
      | slot i => exact .inr rfl
      | tmp => exact .inr rfl⟩
    slo := fun a w e n => by
      unfold Gh.here
      dsimp only
      rw [e]
      cases w with
      | obj m => exact absurd rfl (n m)
      | slot i => rfl
      | tmp => rfl
    tm := A.tm, mu := A.mu, len := A.len, sl := A.sl }
theorem Ab.there (A : Ab K g σ H ρ M F O) (A' : Ab K (g.here H F O) σ' H' ρ' M' F' O') : Ab K g σ' H' ρ' M' F' O' :=
  { sub := A'.sub, ext0 := A.ext0.trans A'.ext0
    new := fun a u e => by
      rcases A'.new a u e with h | h
      · exact A.new a u h
      · exact .inr (here_none A h)
    frm := fun a u e n => let z := here_some A e n; A'.frm a u z.1 z.2
    thr := fun a u e => by
      cases h : (g.here H F O).H0 a with
      | some u' => exact A'.thr a u' h
      | none => rw [here_none A h] at e; cases e
    liv := fun a w e => ⟨(A'.liv a w e).1, (A'.liv a w e).2.1, by
      rcases (A'.liv a w e).2.2 with ⟨m, h⟩ | h
      · exact (A.liv a _ h).2.2
      · exact .inr (here_none A h)⟩
    slo := fun a w e n => here_none A (A'.slo a w e n)
    tm := A'.tm, mu := A'.mu, len := A'.len, sl := A'.sl }
theorem Ab.other (A : Ab K g σ H ρ M F O) (hF : F D = none) (hO : O D = none) (h0 : g.H0 D = none) : Ab K g σ (upd H D o) ρ M F O := by
  have ne : ∀ b w, O b = some w → b ≠ D := fun b w e z => by rw [z, hO] at e; cases e
  have ne0 : ∀ b u, g.H0 b = some u → b ≠ D := fun b u e z => by rw [z, h0] at e; cases e
  exact { sub := fun b u e => (upd_ne fun z => by rw [z, hF] at e; cases e).trans (A.sub b u e), ext0 := A.ext0, new := A.new
          frm := fun b u e n => (upd_ne (ne0 b u e)).trans (A.frm b u e n)
          thr := fun b u e => by
            obtain ⟨u', z⟩ := A.thr b u e
            exact ⟨u', (upd_ne (ne0 b u e)).trans z⟩
          liv := fun b w e => by
            obtain ⟨⟨u, z⟩, r⟩ := A.liv b w e
            exact ⟨⟨u, (upd_ne (ne b w e)).trans z⟩, r⟩
          slo := A.slo
          tm := fun p l e => by
            obtain ⟨xs, e1, e2, e3⟩ := A.tm p l e
            exact ⟨xs, (upd_ne (ne p _ e3)).trans e1, e2, e3⟩
          mu := fun b mo e => (A.mu b mo e).mono (Same.refl F) fun q u e1 e2 => ⟨(upd_ne (ne q _ e2)).trans e1, e2⟩
          len := A.len
          sl := fun j sv e => by
            obtain ⟨v, e1, r⟩ := A.sl j sv e
            exact ⟨v, e1, r.mono (Same.refl F) fun q xs e1 e2 => ⟨(upd_ne (ne q _ e2)).trans e1, e2⟩⟩ }
end
section
variable {X : Cx} {W : WX} {elt tg iter : Expr} {ifs : List Expr} {scope : Scope} {own : List (Str × Nat)} {pos p pos2 : Pos} {pl : PTA} {gd : PTG} {tt : PTT} {te : PTE} {is vs : List Nat}
end
end Px
set_option Elab.async false
set_option linter.all false
set_option maxRecDepth 100000
namespace Px
open PySem PySem.Spec PyProof.Rows L2
end Px
set_option Elab.async false
set_option linter.all false
set_option maxRecDepth 100000
namespace Px
open PySem PySem.Spec PyProof.Rows L2
section
variable {K : PySem.W.Frag} {F F' : Hp}
end
abbrev PC := PX → Mm → PQ → Prop
def actOf (c : PC) (i : Nat) (cl : D) : PTE := fun w ρ M k => gt ρ i = some (.val cl) ∧ ∃ (e : PX) (q : PQ), c e M q ∧ (∀ cls fs M', e cls fs M' → w cls fs ρ M') ∧ ∀ d M', q d M' → k d M'
def actIn (Z : Cx) (a : Str) (c : PC) (cl : D) : Prop := ∀ (pn : List (Addr × Obj)) (xe : Value → Shared → Prop) (W : WX) (p1 p2 : Pos), Takes (Z.tr pn xe) W → DE (Z.tr pn xe) W (.Call (.Name a p1) [] [] p2) (actOf c 0 cl)
def toSpC (K : PySem.W.Frag) (TT : PC → PC) (c : PC) (cl : D) (v : V) : Hp → VK → XK → Prop := fun H Q E => ∃ g F M O q e, Wd K g H M F O ∧ Rp K F cl v ∧ TT c e M q ∧
  (∀ v H' F' O' M' d, Aft K H F O H' M' F' O' → Rp K F' d v → q d M' → Q v H') ∧
  (∀ cls dd H' F' O' M' fs, Aft K H F O H' M' F' O' → ExOk K F' dd fs → e cls fs M' → E cls dd H')
section
variable (P : Program) (w : World) (K : PySem.W.Frag) (mg : Str → Option Value) (base : Heap)
structure FnC (j : Nat) (f : Addr) (fd : FuncData) (a qual : Str) (stm : Stmt) (N : List Str) (TT : PC → PC) : Prop where
  run : ∀ (A : Around) (outer : List Env) (s : Shared) (H : Hp) (u : Value) (cl : D) (v : V) (c : PC) (Q : VK) (E : XK), Room (j + 1) A → A.guards = some [] → Env0 P w K mg base A outer s H → BindsTo s fd ⟨[u], []⟩ [(a, u)] → RelV v u →
    (∀ cdv, Room j (A.deeper (envOfC qual (defScope stm) s.heap.objs.size f cdv)) → actIn (cxOf (L2.CX P w) P w K mg base N qual (defScope stm) f cdv A outer s H E) a c cl) → toSpC K TT c cl v H Q E →
    codeAny (model P w) A (.call (.ref f) ⟨[u], []⟩) (CR (L2.CX P w) outer P w H s Q E) s
end
section
variable {P : Program} {w : World} {K : PySem.W.Frag} {mg : Str → Option Value} {base : Heap} {j : Nat} {f : Addr} {fd : FuncData} {N : List Str}
end
section
variable {X : Cx} {pins : List (Addr × Obj)} {σ : L2.St} {H : Hp} {s : Shared} {ρ : Rho} {g : Addr} {cdg : Value} {qg : Str} {sg : Scope} {Ng : List Str} {Eg : XK} {k : Nat}
end
section
variable {X : Cx} {W : WX} {k : Nat} {g c P : Addr} {fd : FuncData} {a x qual qn : Str} {stm : Stmt} {N : List Str} {TT : PC → PC} {prm : Arguments} {bd : Expr} {scp : Scope} {lp p pos : Pos} {pb : PTE}
end
end Px
set_option Elab.async false
set_option linter.all false
set_option maxRecDepth 100000
namespace Px
open PySem PySem.Spec PyProof.Rows L2
section
variable {X : Cx} {pins : List (Addr × Obj)} {σ : L2.St} {H : Hp} {s sI : Shared} {a : Addr} {cls : Value} {d : Option Addr} {oe : Obj} {vs : Array Value}
end
structure Cla where
  c : Value
  i : Option Nat
  t : Addr → Value → Option Addr → TS
inductive ClaOk (X : Cx) : List ExceptHandler → List Cla → Prop
  | nil : ClaOk X [] []
  | bare {x : Str} {c : Value} {t : Addr → Value → Option Addr → TS} {b₀ : Stmt} {su : List Stmt} {np cp : Pos} {hds : List ExceptHandler} {l : List Cla} (hc : Names X x c)
      (hsu : ∀ a cls d pn, PSs (X.suite a pn) (b₀ :: su) (t a cls d)) (r : ClaOk X hds l) : ClaOk X (.ExceptHandler (some (.Name x np)) none (b₀ :: su) cp :: hds) (⟨c, none, t⟩ :: l)
  | named {x n : Str} {i : Nat} {c : Value} {t : Addr → Value → Option Addr → TS} {b₀ : Stmt} {su : List Stmt} {np cp : Pos} {hds : List ExceptHandler} {l : List Cla} (hc : Names X x c) (hi : X.N[i]? = some n) (hl : X.env.kindOf n = some .local)
      (hsu : ∀ a cls d pn, PSs (X.suite a pn) (b₀ :: su) (t a cls d)) (r : ClaOk X hds l) : ClaOk X (.ExceptHandler (some (.Name x np)) (some n) (b₀ :: su) cp :: hds) (⟨c, some i, t⟩ :: l)
section
variable {X : Cx} {body : List Stmt} {h₀ : ExceptHandler} {hds : List ExceptHandler} {l : List Cla} {pos : Pos} {tb : WX → TS} {Wo : WX}
end
end Px
set_option Elab.async false
set_option linter.all false
set_option maxRecDepth 100000
namespace Px
open PySem PySem.Spec PyProof.Rows L2
section
variable {K : PySem.W.Frag} {g : Gh} {σ : L2.St} {H : Hp} {ρ : Rho} {M : Mm} {F : Hp} {O : Own}
end
structure PCl where
  tb : Value → Bool → Prop
  i : Option Nat
  p : PTS
inductive PClOk (X : Cx) : List ExceptHandler → List PCl → Prop
  | nil : PClOk X [] []
  | bare {x : Str} {c : Value} {tb : Value → Bool → Prop} {p : PTS} {b₀ : Stmt} {su : List Stmt} {np cp : Pos} {hds : List ExceptHandler} {l : List PCl} (hc : Names X x c) (ht : ∀ cls b, tb cls b → PySem.W.exmOne X.K cls c = some b)
      (hsu : ∀ a pn, DSs (X.suite a pn) (fun _ _ _ _ => False) (b₀ :: su) p) (r : PClOk X hds l) : PClOk X (.ExceptHandler (some (.Name x np)) none (b₀ :: su) cp :: hds) (⟨tb, none, p⟩ :: l)
  | named {x n : Str} {i : Nat} {c : Value} {tb : Value → Bool → Prop} {p : PTS} {b₀ : Stmt} {su : List Stmt} {np cp : Pos} {hds : List ExceptHandler} {l : List PCl} (hc : Names X x c) (ht : ∀ cls b, tb cls b → PySem.W.exmOne X.K cls c = some b)
      (hi : X.N[i]? = some n) (hl : X.env.kindOf n = some .local) (hsu : ∀ a pn, DSs (X.suite a pn) (fun _ _ _ _ => False) (b₀ :: su) p) (r : PClOk X hds l) : PClOk X (.ExceptHandler (some (.Name x np)) (some n) (b₀ :: su) cp :: hds) (⟨tb, some i, p⟩ :: l)
section
variable {X : Cx} {W : WX} {body : List Stmt} {h₀ : ExceptHandler} {hds : List ExceptHandler} {l : List PCl} {pos : Pos} {pb : PTS}
end
end Px
set_option Elab.async false
set_option linter.all false
set_option maxRecDepth 100000
namespace Px
open PySem PySem.Spec PyProof.Rows L2
section
variable {X : Cx} {W : WX} {tg a b c : Expr} {rest : List Expr} {pa pb pc : PTE} {pos p : Pos}
end
end Px
set_option Elab.async false
set_option linter.all false
set_option maxRecDepth 100000
namespace Px
open PySem PySem.Spec PyProof.Rows L2
theorem WOk.here {K : PySem.W.Frag} {g : Gh} {σ : L2.St} {H F : Hp} {ρ : Rho} {M : Mm} {O : Own} {W : WX} {w : PWi} (A : Ab K g σ H ρ M F O) (h : WOk K g F W w) : WOk K (g.here H F O) F W w :=
  fun cls dd σ' H' ρ' M' F' O' fs A' s x y => h cls dd σ' H' ρ' M' F' O' fs (A.there A') s x y
section
variable {X : Cx} {W : WX} {pa pb pc : PTE}
end
end Px
set_option Elab.async false
set_option linter.all false
set_option maxRecDepth 100000
namespace Px
open PySem PySem.Spec PyProof.Rows L2
section
variable {K : PySem.W.Frag} {g : Gh} {σ : L2.St} {H : Hp} {F : Hp} {ρ : Rho} {M : Mm} {O : Own} {p : Addr} {mo : Mo}
end
section
variable {X : Cx} {W : WX} {k n : Nat} {f C : Addr} {fd : FuncData} {ps : List Str} {sp : PSp} {x : Str} {p pos : Pos} {e : Expr} {es : List Expr} {pl : PTA}
end
end Px
set_option Elab.async false
set_option linter.all false
set_option maxRecDepth 100000
namespace Px
open PySem PySem.Spec PyProof.Rows L2
section
variable {X : Cx} {W : WX} {C : Addr} {f : Str} {e o value : Expr} {pos pos' : Pos} {pe po : PTE}
end
end Px
set_option Elab.async false
set_option linter.all false
set_option maxRecDepth 100000
namespace Px
open PySem PySem.Spec PyProof.Rows L2
section
variable {X : Cx} {W : WX} {k n : Nat} {f g p C : Addr} {fd : FuncData} {ps : List Str} {sp : PSp} {m pf : Str} {pos apos : Pos} {e o : Expr} {es : List Expr} {pe po : PTE} {pl : PTA}
end
end Px
set_option Elab.async false
set_option linter.all false
set_option maxRecDepth 100000
namespace Px
open PySem PySem.Spec PyProof.Rows L2
structure ExC (K : PySem.W.Frag) (C : Addr) : Prop where
  cl : (PySem.W.clsIn K C).isSome = true
  ga : PySem.W.findIn K (.ref C) "__getattribute__" = some (some (.builtin "BaseException.__getattribute__"))
  gt : PySem.W.findIn K (.ref C) "__getattr__" = some none
  su : PySem.W.subIn K (.ref C) (.type "BaseException") = some true
  hd : PySem.W.hasDictIn K C = true
  ca : PySem.W.findIn K (.ref C) "__class__" = some (some (.builtin "object.__class__"))
  cn : PySem.W.specialIn K (.builtin "object.__class__") "__get__" = some (some (.builtin "getset_descriptor.__get__"))
  ct : PySem.W.takesIn K (.builtin "object.__class__") = some true
  cm : PySem.W.mroIn K C (.type "object") = some true
section
variable {X : Cx} {pins : List (Addr × Obj)} {σ : L2.St} {H : Hp} {s : Shared} {a C : Addr} {d : Option Addr}
end
section
variable {X : Cx} {W : WX} {C : Addr} {a e : Expr} {pa pe : PTE} {p p2 pos : Pos} {x2 : Str}
end
section
variable {X : Cx} {W : WX} {o e : Expr} {po pe : PTE} {apos cpos : Pos}
section
variable {K : PySem.W.Frag} {c : Value} {C D : Addr} {b : Bool} {n : Str}
end
end
end Px
set_option Elab.async false
set_option linter.all false
set_option maxRecDepth 100000
namespace Px
open PySem PySem.Spec PyProof.Rows L2
section
variable {P : Program} {w : World} {K : PySem.W.Frag} {mg : Str → Option Value} {base : Heap} {k : Nat} {f : Addr} {fd : FuncData} {ps N : List Str}
end
structure Mk where
  c : Addr
  p : Addr
  q : Str
section
variable {P : Program} {w : World} {K : PySem.W.Frag} {mg mb : Str → Option Value} {k : Nat} {fa a : Addr} {fd : FuncData} {x : Str} {s₁ : Shared} {vs : List Value} {ns : List Int} {ms : List Mk}
end
end Px
set_option Elab.async false
set_option linter.all false
set_option maxRecDepth 100000
namespace Px
open PySem PySem.Spec PyProof.Rows L2
end Px
set_option Elab.async false
set_option linter.all false
set_option maxRecDepth 100000
namespace Px
open PySem PySem.Spec PyProof.Rows L2
section
variable {K : PySem.W.Frag} {F : Hp}
theorem RpL.one {d : D} {x : V} (h : Rp K F d x) : RpL K F [d] [x] := ⟨x, [], rfl, h, rfl⟩
end
section
variable {X : Cx} {W : WX} {e f : Expr} {pe pf : PTE} {pos p1 p2 p3 : Pos}
end
end Px
set_option Elab.async false
set_option linter.all false
set_option maxRecDepth 100000
namespace Px
open PySem PySem.Spec PyProof.Rows L2
section
variable {P : Program} {w : World} {K : PySem.W.Frag} {mg : Str → Option Value} {base : Heap} {k : Nat} {f : Addr} {fd : FuncData} {ps N : List Str} {dvs : List V}
theorem FunD.gok {x qual : Str} {stm : Stmt} {sp : Sp} (Fn : L2.FunD K x qual (defArgs stm) (defBody stm) (defScope stm) dvs [] f fd) (S : FnScope N ps (defScope stm)) (hn : ∀ vs H Q E, sp vs H Q E → vs.length = ps.length)
    (hbody : ∀ (cdv : Value) (A : Around) (outer : List Env) (s : Shared) (H : Hp) (vs : List V) (Q : VK) (E : XK), Room k (A.deeper (envOfC qual (defScope stm) s.heap.objs.size f cdv)) → A.guards = some [] → sp vs H Q E →
      ∃ t : TS, PSs (cxOf (L2.CX P w) P w K mg base N qual (defScope stm) f cdv A outer s H E) (defBody stm) t ∧ t { nx := fun _ H' => Q .non H', rt := Q } (L2.start N vs) H) :
    FnG P w K mg base (k + 1) f fd ps sp := by
  obtain ⟨oc, od, dV, kV, doc, pm, an, cdv, ct, osl, rfl, lk, hcd, _, _⟩ := Fn.ex
  refine ⟨hn, fun A outer s H args us vs Q E hr hG e0 hb r hsp => ?_⟩
  have hl : vs.length = ps.length := hn _ _ _ _ hsp
  have KX : K.In s.heap := e0.mod.kin.keeps fun b o e => (e0.bs b o e).1
  have lim : s.heap.NoLimit := e0.mod.nolimit.keeps fun b o e => (e0.bs b o e).1
  have kinds : ∀ y ∈ ps.zip us, (defScope stm).names.lookup y.1 = some .local ∨ ((defScope stm).names.lookup y.1 = some .cell ∧ ((cellsFrom (s.heap.objs.size + 1) (defScope stm).names []).lookup y.1).isSome = true) := by
    rintro ⟨n, v⟩ hy
    rcases S.par n (List.of_mem_zip hy).1 with q | q
    · exact .inl q
    · exact .inr ⟨q, PySem.W.cellsFrom_some _ _ _ (.inl q)⟩
  refine codeAny_call_function hr.depth (KX _ _ lk) rfl S.co S.gen rfl (PySem.W.codeRec_of KX hcd) (hb _ _ _ _ ?_)
  refine wpAny_newFunctionEnv_cells S.kind kinds fun env he s1 x => ?_
  subst he
  refine ⟨lim.keeps x.toInCall.keep, codeAny_func ?_⟩
  obtain ⟨t, ht, hq⟩ := hbody cdv A outer s H vs Q E (hr.deeper _) hG hsp
  have I := inv_start (CX := L2.CX P w) (E := E) (qual := qual) (f := f) (cd := cdv) (A := A) S hr.hd e0 hl r x
  refine wpAny_mono (ht.run [] s1 (L2.start N vs) H { nx := fun _ H' => Q .non H', rt := Q } I hq) (fun fl s' hs => ?_) fun e s' hs => hs
  cases fl with
  | ret u =>
    obtain ⟨v, σ', H', J, rv, q⟩ := hs
    exact ⟨v, H', J.os, J.bare, J.base, J.hok, rv, q⟩
  | next =>
    obtain ⟨σ', H', J, q⟩ := hs
    exact ⟨.non, H', J.os, J.bare, J.base, J.hok, rfl, q⟩
  | brk =>
    obtain ⟨_, _, _, q⟩ := hs
    exact q.elim
  | cont =>
    obtain ⟨_, _, _, q⟩ := hs
    exact q.elim
theorem FunD.pok {x qual : Str} {stm : Stmt} {n : Nat} {sp : PSp} {p : PTS} (Fn : L2.FunD K x qual (defArgs stm) (defBody stm) (defScope stm) dvs [] f fd) (S : FnScope N ps (defScope stm)) (hn : ps.length = n) (hs : Shows sp N.length p)
    (hbody : ∀ (cdv : Value) (A : Around) (outer : List Env) (s : Shared) (H : Hp) (E : XK), Room k (A.deeper (envOfC qual (defScope stm) s.heap.objs.size f cdv)) → A.guards = some [] →
      DSs (cxOf (L2.CX P w) P w K mg base N qual (defScope stm) f cdv A outer s H E) (WE E) (defBody stm) p) :
    FnG P w K mg base (k + 1) f fd ps (toSp K n sp) := by
  refine FunD.gok Fn S (fun vs H Q E h => by rw [toSp_len h, hn]) fun cdv A outer s H vs Q E hr hG hsp => ⟨_, hbody cdv A outer s H E hr hG, ?_⟩
  obtain ⟨g, F, M, O, ds, q, e, _, A0, rp, hsp, hQ, hE⟩ := hsp
  refine ⟨_, _, _, _, _, _, _, A0.enter (N := N) rp, hs ds M q e hsp, ?_, ?_, ?_, ?_, ?_, ?_⟩
  · intro cls dd σ' H' ρ' M' F' O' fs A2 s2 x2 ⟨M2, h1, h2⟩
    exact hE cls dd H' F' _ M2 fs (A2.leave h1) x2 h2
  · intro σ' H' ρ' M' F' O' A2 s2 ⟨M2, h1, h2⟩
    exact hQ .non H' F' _ M2 .non (A2.leave h1) rfl h2
  · intro v σ' H' ρ' M' F' O' d A2 s2 r2 ⟨M2, h1, h2⟩
    exact hQ v H' F' _ M2 d (A2.leave h1) r2 h2
  · intro σ' H' ρ' M' F' O' A2 s2 z; exact z.elim
  · intro σ' H' ρ' M' F' O' A2 s2 z; exact z.elim
  · intro a xs σ' H' ρ' M' F' O' ds A2 s2 e1 e2 e3 e4 e5 z; exact z.elim
def spNever : PSp := fun _ _ _ _ => False
theorem FnG.never {k n : Nat} {f : Addr} {fd : FuncData} {ps : List Str} : FnG P w K mg base k f fd ps (toSp K n spNever) :=
  ⟨fun _ _ _ _ ⟨_, _, _, _, _, _, _, _, _, _, z, _⟩ => z.elim, fun _ _ _ _ _ _ _ _ _ _ _ _ _ _ ⟨_, _, _, _, _, _, _, _, _, _, z, _⟩ => z.elim⟩
end
structure DefV (K : PySem.W.Frag) (mg : Str → Option Value) (x : Str) (stm : Stmt) (ps : List Str) (dvs : List V) (a : Addr) (fd : FuncData) : Prop where
  f : L2.FunD K x x (defArgs stm) (defBody stm) (defScope stm) dvs [] a fd
  b : Binds K fd ps []
  bd : ∃ ds, Vals dvs ds ∧ Binds K fd ps ds
  g : mg x = some (.ref a)
section
variable {K : PySem.W.Frag} {x qual : Str} {params : Arguments} {body : List Stmt} {scope : Scope} {dvs : List V} {f : Addr} {fd : FuncData} {ps : List Str}
end
section
variable {K : PySem.W.Frag} {f T : Addr} {x : Str} {stm : Stmt} {oc kV doc pm cdv ct : Value} {od an : Option Addr} {osl : Array (Option Value)}
end
section
variable {X : Cx} {W : WX} {k n : Nat} {f : Addr} {fd : FuncData} {ps : List Str} {sp : PSp} {x : Str} {p pos : Pos} {e : Expr} {es : List Expr} {pl : PTA} {dd : List D} {dvs : List V}
end
section
variable {X : Cx} {W : WX} {pa pb : PTE} {pl : PTA}
theorem lev_le {j L n : Nat} (h : j ≤ L) : j ≤ L + n := Nat.le_trans h (Nat.le_add_right L n)
end
section
variable {X : Cx} {W : WX} {K : PySem.W.Frag} {a b : Expr} {pa pb : PTE} {pos : Pos}
end
end Px
set_option Elab.async false
set_option linter.all false
set_option maxRecDepth 100000
namespace Px
open PySem PySem.Spec PyProof.Rows L2
section
variable {X : Cx} {W : WX} {k n : Nat} {f C : Addr} {fd : FuncData} {ps : List Str} {sp : PSp} {pos : Pos} {a b : Expr} {pa pb : PTE}
end
end Px
set_option Elab.async false
set_option linter.all false
set_option maxRecDepth 100000
namespace Px
open PySem PySem.Spec PyProof.Rows L2
section
variable {X : Cx} {W : WX} {k n : Nat} {f C : Addr} {fd : FuncData} {ps : List Str} {sp : PSp} {pos : Pos} {a b : Expr} {pa pb : PTE}
end
end Px
set_option Elab.async false
set_option linter.all false
set_option maxRecDepth 100000
namespace Px
open PySem PySem.Spec PyProof.Rows L2
structure IsC (K : PySem.W.Frag) (C : Addr) : Prop where
  own : PySem.W.kitOne K (.ref C) (.ref C) = some true
  tys : ∀ t ∈ tys, PySem.W.kitOne K (.type t) (.ref C) = some false
  cl : Cls K C
  ha : PySem.W.findIn K (.ref C) "__class__" = some (some (.builtin "object.__class__"))
  hn : PySem.W.specialIn K (.builtin "object.__class__") "__get__" = some (some (.builtin "getset_descriptor.__get__"))
  tk : PySem.W.takesIn K (.builtin "object.__class__") = some true
  mro : PySem.W.mroIn K C (.type "object") = some true
section
variable {X : Cx} {W : WX} {C : Addr} {a : Expr} {pa : PTE} {p p2 pos : Pos} {x2 : Str}
end
end Px
set_option Elab.async false
set_option linter.all false
set_option maxRecDepth 100000
namespace Px
open PySem PySem.Spec PyProof.Rows L2
structure MethT (K : PySem.W.Frag) (C : Addr) (m qual : Str) (stm : Stmt) (ps : List Str) (a : Addr) (fd : FuncData) : Prop where
  f : L2.Fun K m qual stm a fd
  b : Binds K fd ps []
  at_ : PySem.W.findIn K (.ref C) m = some (some (.ref a))
  fn : PySem.W.isFn K (.ref a) = true
structure ClsT (K : PySem.W.Frag) (mg : Str → Option Value) (x : Str) (C : Addr) : Prop where
  g : mg x = some (.ref C)
  makes : PySem.W.makesIn K C = true
  kp : PySem.W.keepIn K (.ref C) = true
  first : PySem.W.selfFirst K C = true
  is : IsC K C
section
variable {K : PySem.W.Frag} {mg : Str → Option Value} {x m qual : Str} {C a : Addr} {stm : Stmt} {ps : List Str} {fd : FuncData}
theorem ClsT.cl (t : ClsT K mg x C) : Cls K C := t.is.cl
end
end Px
set_option Elab.async false
set_option linter.all false
set_option maxRecDepth 100000
namespace Px
open PySem PySem.Spec PyProof.Rows L2
def fListC : G1 := fun x k => match x with
  | .lst l => k l
  | .tup l => k l
  | _ => False
section
variable {X : Cx} {W : WX} {a : Expr} {pa : PTE} {p pos : Pos}
theorem dl_listc (hg : Gl X "list") (hm : X.mg "list" = none) (ha : DO X W a pa) (he : starEach [a] X.env = (false, eval a X.env) :: starEach [] X.env := by rfl) (hpl : (backTo pos (starEach [] X.env)).any (·.1) = false := by rfl) :
    DL X W (.Call (.Name "list" p) [a] [] pos) (dG1 fListC pa) := dl_t1 call_list_of (f := fListC) (fun g σ H ρ M F O x v k Q A rx h c => by
    cases x with
    | lst l =>
      obtain ⟨q, xs, e1, h1, rl⟩ := rx.lst A
      exact ⟨q, xs, by rw [e1], .inl (.inl (.inl h1)), fun t ht => c l t xs ht rl h⟩
    | tup l =>
      obtain ⟨q, xs, e1, h1, rl⟩ := rx.tupR
      exact ⟨q, xs, by rw [e1], .inr (same_t A.sub h1), fun t ht => c l t xs ht rl h⟩
    | _ => exact (show False from h).elim) hg hm (by decide +kernel) ha (by decide) (by decide) he hpl
end
end Px
set_option Elab.async false
set_option linter.all false
set_option maxRecDepth 100000
namespace Px
open PySem PySem.Spec PyProof.Rows L2
def SOk (s : Str) : Prop := PyData.strOk s = true ∧ PyData.leavesShort 70 (.str s) = true ∧ PyData.weight (.str s) ≤ 211
def Gd (L B : Nat) : Nat → D → Prop
  | _, .non => True
  | _, .bl _ => True
  | _, .int i => i.natAbs ≤ B
  | _, .str s => SOk s
  | _, .dic [] [] => True
  | n + 1, .tup l => l.length ≤ L ∧ ∀ x ∈ l, Gd L B n x
  | n + 1, .lst l => l.length ≤ L ∧ ∀ x ∈ l, Gd L B n x
  | _, _ => False
theorem Gd.mono {L B L' B' : Nat} (hL : L ≤ L') (hB : B ≤ B') : ∀ {n n' : Nat} {d : D}, n ≤ n' → Gd L B n d → Gd L' B' n' d
  | _, _, .non, _, _ => by simp [Gd]
  | _, _, .bl _, _, _ => by simp [Gd]
  | _, _, .int i, _, h => by simp only [Gd] at h ⊢; omega
  | _, _, .str s, _, h => by simp only [Gd] at h ⊢; exact h
  | _, _, .dic [] [], _, _ => by simp [Gd]
  | n + 1, n' + 1, .tup l, hn, h => by
    simp only [Gd] at h ⊢
    exact ⟨by omega, fun x hx => Gd.mono hL hB (by omega) (h.2 x hx)⟩
  | n + 1, n' + 1, .lst l, hn, h => by
    simp only [Gd] at h ⊢
    exact ⟨by omega, fun x hx => Gd.mono hL hB (by omega) (h.2 x hx)⟩
  | 0, _, .tup _, _, h => by simp [Gd] at h
  | 0, _, .lst _, _, h => by simp [Gd] at h
  | _ + 1, 0, .tup _, hn, _ => by omega
  | _ + 1, 0, .lst _, hn, _ => by omega
  | _, _, .dic (_ :: _) _, _, h => by simp [Gd] at h
  | _, _, .dic [] (_ :: _), _, h => by simp [Gd] at h
  | _, _, .obj _ _ _, _, h => by simp [Gd] at h
  | _, _, .raw _, _, h => by simp [Gd] at h
  | _, _, .scr _, _, h => by simp [Gd] at h
  | _, _, .clo .., _, h => by simp [Gd] at h
  | _, _, .fnc .., _, h => by simp [Gd] at h
  | _, _, .exv .., _, h => by simp [Gd] at h
theorem Gd.plain {L B n : Nat} {d : D} (h : Gd L B n d) : plain d = true := by
  cases d with
  | dic a b => rcases a with _ | ⟨x, y⟩ <;> rcases b with _ | ⟨z, u⟩ <;> first | rfl | (exfalso; revert h; simp [Gd]; done)
  | _ => first | rfl | (exfalso; revert h; simp [Gd]; done)
theorem Gd.tup {L B n : Nat} {l : List D} (h : Gd L B n (.tup l)) : ∃ m, n = m + 1 ∧ l.length ≤ L ∧ ∀ x ∈ l, Gd L B m x := by
  cases n with
  | zero => simp [Gd] at h
  | succ m => simp only [Gd] at h; exact ⟨m, rfl, h⟩
theorem Gd.lst {L B n : Nat} {l : List D} (h : Gd L B n (.lst l)) : ∃ m, n = m + 1 ∧ l.length ≤ L ∧ ∀ x ∈ l, Gd L B m x := by
  cases n with
  | zero => simp [Gd] at h
  | succ m => simp only [Gd] at h; exact ⟨m, rfl, h⟩
theorem Gd.parts {L B n : Nat} {d : D} (h : Gd L B n d) : parts d = true := by
  cases d with
  | tup l =>
    obtain ⟨m, _, _, h2⟩ := h.tup
    exact List.all_eq_true.mpr fun x hx => (h2 x hx).plain
  | _ => rfl
theorem gd_con {L B n : Nat} {l : List D} (h : l.length ≤ L) (h2 : ∀ x ∈ l, Gd L B n x) : Gd L B (n + 1) (.tup l) ∧ Gd L B (n + 1) (.lst l) := by
  simp only [Gd]
  exact ⟨⟨h, h2⟩, h, h2⟩
end Px
set_option Elab.async false
set_option linter.all false
set_option maxRecDepth 100000
namespace Px
open PySem PySem.Spec PyProof.Rows L2
mutual
def sz : D → Nat
  | .tup l => szL l + 1
  | .lst l => szL l + 1
  | .int i => i.natAbs.log2 + 2
  | .str s => s.cps.size + 1
  | _ => 1
def szL : List D → Nat
  | [] => 0
  | d :: r => sz d + szL r
end
end Px
set_option Elab.async false
set_option linter.all false
set_option maxRecDepth 100000
namespace Px
open PySem PySem.Spec PyProof.Rows PySem.W PySem.Calls
section
variable {prog : Program} {w : World} {A : Around} {E : Value → Shared → Prop} {h : Heap} {g : Array GenState} {d : Drawn} {t : Nat} {os : OsState}
variable {nm q : Str} {C N : Addr} {bs bm : List Value} {hdct : Bool} {sn : List Str} {sub : List Value} {ab : Bool} {col : Option Bool} {dd : Option Addr} {k0 k1 k2 k3 k5 : Option Value}
theorem call_vw {u e t0 : Addr} {rest : List Value} {Q : Value → Shared → Prop}
    (hC : h.get? C = some (excClassObj nm q C N bs bm hdct sn sub ab col dd k0 k1 k2 k3 k5 "ValueError.__new__")) (he : h.get? e = some (HandSPX.excO C t0)) (hu : h.get? u = some (kxs_mw "ValueError.__init__" e)) (hrest : rest.length ≤ sizeLine)
    (hq : ∀ h' t1, (∀ b o, b ≠ e → h.get? b = some o → h'.get? b = some o) → h'.get? e = some (HandSPX.excO C t1) → Q .none ⟨h', g, d, t, os⟩) :
    wpAny (model prog w) A (call (.ref u) rest) Q E ⟨h, g, d, t, os⟩ := by
  refine wpAny_call (codeAny_of_tree ?_)
  show wpAny _ A.in1 (callAny (.ref u) ⟨rest, []⟩) _ _ _
  simp only [callAny]
  refine wpAny_bind (wpAny_load hu ?_)
  simp only [kxs_mw, show (Value.type "method-wrapper" == Value.type "method" || Value.type "method-wrapper" == Value.type "builtin_function_or_method" || Value.type "method-wrapper" == Value.type "method-wrapper") = true by decide, if_true]
  refine KFB.if_so (by decide) ?_
  refine wpAny_bind (check_bound_init F.excBase_ValueError.toExcCallFacts hC he rfl ?_)
  refine wpAny_bind (wpAny_pure (wpAny_pure ?_))
  refine ⟨plainId_quiet F.excBase_ValueError.init.plain _, codeAny_builtin F.excBase_ValueError.initEntry ?_⟩
  exact exc_init_tree (cls := .ref C) (t0 := t0) (dv := none) (c2 := .none) (c3 := .none) (b4 := .bool false) he hrest fun h' k e' _ => hq h' _ k e'
end
structure InitA (P : Program) (K : Frag) (C fI : Addr) (x f : Str) : Prop where
  sup : ks_superIn K C C "__init__" = some (some (.builtin "ValueError.__init__"))
  hB : subIn K (.ref C) (.type "ValueError") = some true
  mro : mroIn K C (.ref C) = some true
  opq : nsIn K cStatics "thirdparty.any" = some none
  no : findIn K (.ref C) f = some none
  top : (P.main.scope.names.lookup ("super" : Str)).isSome = false
  ex : ∃ (oc ct dV kV doc pm : Value) (od an : Option Addr) (cda cc : Addr) (osl : Array (Option Value)) (qual : Str) (params : Arguments) (scope : Scope) (msg : Str) (j : Nat) (p0 p1 p2 p3 p4 p5 p6 p7 p8 p9 : Pos) (vs : Array Value) (file : Str) (tf : Tok) (ccl cl : Value) (cdd cld : Option Addr) (ccs csl : Array (Option Value)) (ar : Arg),
    K.lookup fI = some ⟨oc, od, .func (ksFn "__init__" qual params [.Expr (.Call (.Attribute (.Call (.Name "super" p0) [] [] p1) "__init__" p2) [.Constant (.str msg) j p3] [] p4) p5, .Assign [.Attribute (.Name "self" p6) f p7] (.Name x p8) p9] scope dV kV doc pm an (.ref cda) ct cc), osl⟩ ∧
    codeIn K (.ref cda) qual = true ∧ K.lookup cda = some ⟨ccl, cdd, .fields vs, ccs⟩ ∧ vs[2]? = some (.str file tf) ∧ ((P.main.file : Str) == file) = true ∧ K.lookup cc = some ⟨cl, cld, .cell (some (.ref C)), csl⟩ ∧
    (params.posonlyargs ++ params.args).head? = some ar ∧ ar.arg = ("self" : Str) ∧ (∀ (s : Shared) (e u : Value), BindsTo s (ksFn "__init__" qual params [.Expr (.Call (.Attribute (.Call (.Name "super" p0) [] [] p1) "__init__" p2) [.Constant (.str msg) j p3] [] p4) p5, .Assign [.Attribute (.Name "self" p6) f p7] (.Name x p8) p9] scope dV kV doc pm an (.ref cda) ct cc) ⟨[e, u], []⟩ [("self", e), (x, u)]) ∧
    scope.names.lookup ("super" : Str) = some .globalImplicit ∧ scope.names.lookup ("__class__" : Str) = some .free ∧ scope.names.lookup ("self" : Str) = some .local ∧ scope.names.lookup x = some .local ∧ (∀ y ∈ scope.names, y.2 ≠ .cell) ∧
    scope.isCoroutine = false ∧ scope.isGenerator = false ∧ scope.kind = .function ∧ x ≠ ("self" : Str) ∧ (x == ("__debug__" : Str)) = false ∧
    (∀ L, interactive (ksEnv qual scope L fI (.ref cda) cc) = false) ∧ (∀ L, swapsWith (.Call (.Attribute (.Call (.Name "super" p0) [] [] p1) "__init__" p2) [.Constant (.str msg) j p3] [] p4) none p5.line (ksEnv qual scope L fI (.ref cda) cc) = pure false) ∧
    (∀ L, swapsWith (.Name x p8) (some (.Attribute (.Name "self" p6) f p7)) p9.line (ksEnv qual scope L fI (.ref cda) cc) = pure false) ∧
    ∃ pl : Sem Bool, ∀ L, eval (.Call (.Attribute (.Call (.Name "super" p0) [] [] p1) "__init__" p2) [.Constant (.str msg) j p3] [] p4) (ksEnv qual scope L fI (.ref cda) cc) = (do
      let ov ← attributeBase (.Call (.Name "super" p0) [] [] p1) "__init__" (ksEnv qual scope L fI (.ref cda) cc) (eval (.Call (.Name "super" p0) [] [] p1) (ksEnv qual scope L fI (.ref cda) cc))
      standAt p2.atName
      let (f, first) ← holding [ov] (getMethod ov "__init__" pl)
      callWith p4 f first (backTo p4 (starEach [.Constant (.str msg) j p3] (ksEnv qual scope L fI (.ref cda) cc))) [])
section
variable {prog : Program} {w : World} {A : Around} {R : Result → Shared → Prop} {K : Frag} {C fI e t0 : Addr} {u : Value} {x f : Str} {mg mb : Str → Option Value} {s : Shared}
theorem init_attr (T : L2.OexC K C) (Z : InitA prog K C fI x f) (X : K.In s.heap) (hlim : s.heap.NoLimit) (hroom : A.depth < recursionLimit) (hg : s.heap.Ns mainGlobals mg) (hgs : mg "super" = none) (hb : s.heap.Ns builtinsNs mb) (hbs : mb "super" = some (.type "super"))
    (he : s.heap.get? e = some (HandSPX.excO C t0)) (hKe : K.lookup e = none)
    (hq : ∀ h' tk' dx t1, (∀ b o, b ≠ e → s.heap.get? b = some o → h'.get? b = some o) → s.heap.objs.size ≤ dx → h'.get? e = some { cls := .ref C, dict := some dx, data := .fields #[.ref t1, .none, .none, .none, .bool false, .none] } →
      h'.Ns1 dx (fun y => if y = f then some u else none) → R (.ok (.ret .none)) { s with heap := h', toks := tk' }) :
    codeAny (model prog w) A (.call (.ref fI) ⟨[.ref e, u], []⟩) R s := by
  obtain ⟨oc, ct, dV, kV, doc, pm, od, an, cda, cc, osl, qual, params, scope, msg, j, p0, p1, p2, p3, p4, p5, p6, p7, p8, p9, vs, file, tf, ccl, cl, cdd, cld, ccs, csl, ar, hf, hcd, hcode, hvs, hfile, hcell, har, harn, hbind, s1, s2, s3, s4, s5, s6, s7, s8, s9, s10, s11, s12, s13, pl, s14⟩ := Z.ex
  obtain ⟨nm, qn, N, bs, bm, sn, sub, ab, col, dd, k0, k1, k2, k3, k5, hC, hbm⟩ := T.cls
  refine ks_codeAny_call_defAt (binds := [("self", .ref e), (x, u)]) hroom (X _ _ hf) rfl hlim (codeRec_of X hcd) rfl (hbind s _ _) s5 (fun y hy => ?_) (fun h₀ hns hk => ?_) s6 s7 s8
  · rcases List.mem_cons.mp hy with rfl | hy
    · exact s3
    · rw [List.mem_singleton.mp hy]; exact s4
  have X0 : K.In h₀ := X.keeps hk
  obtain ⟨hp, g, d, t, os⟩ := s
  have hCp := X0 _ _ hC
  have hep := hk _ _ he
  have hne : e ≠ hp.objs.size := Nat.ne_of_lt (Heap.lt_size he)
  have hself : (fun y => [(("self" : Str), Value.ref e), (x, u)].reverse.lookup y) "self" = some (.ref e) := by
    show (List.lookup ("self" : Str) [(x, u), (("self" : Str), Value.ref e)]) = _
    have : (("self" : Str) == x) = false := by simpa using fun z => s9 z.symm
    simp [List.lookup, this]
  have hx : (fun y => [(("self" : Str), Value.ref e), (x, u)].reverse.lookup y) x = some u := by
    show (List.lookup x [(x, u), (("self" : Str), Value.ref e)]) = _
    simp [List.lookup]
  refine ks_wpAt_execs_cons (ks_wpAt_Expr_any (ks_wpAt_MethodCall (pl := pl) ?_ (s14 _)) (s11 _) (s12 _))
  refine ks_wpAt_super_base s1 s2 (by decide) rfl (X0 _ _ hf) rfl har rfl (X0 _ _ hcode) rfl hvs hfile Z.top ?_
  refine ks_loadName_global s8 s1 (loadGlobal_builtin (hg.keeps hk) hgs (hb.keeps hk) hbs ⟨rfl, ?_⟩)
  refine wpAny_loadName_free s8 s2 rfl ⟨_, X0 _ _ hcell, rfl⟩ ?_
  rw [harn]
  refine wpAny_loadName_local s8 s3 hns hself ?_
  refine ks_wpAny_isType_cls hCp rfl ⟨rfl, ?_⟩
  refine ks_wpAny_call_super hCp rfl hep rfl (fun c z => by cases z) (looks_mroIn X0 Z.mro) (fun h' ho k => ?_)
  have X1 : K.In h' := X0.keeps k
  have hcl : clsIn K C = some { name := nm, bases := bs, mro := .ref C :: bm, ns := N, qualname := qn, hasDict := true, slotNames := sn, subclasses := sub, abstract := ab, collection := col, hasDel := false } := by unfold clsIn; rw [hC] <;> rfl
  have hsup : alongIn K "__init__" (((Value.ref C :: bm).dropWhile (· != .ref C)).drop 1) = some (some (.builtin "ValueError.__init__")) := by
    have := Z.sup
    unfold ks_superIn at this
    rw [hcl] at this
    exact this
  have I1 : InstAt h' e (HandSPX.excO C t0) C none := ⟨k _ _ hep, rfl, rfl, trivial⟩
  have hCe : e ≠ C := fun z => by rw [z, hC] at hKe; cases hKe
  refine kxs_getMethod kxs_ValueError ho (looks_opaque X1 Z.opq) (l₀ := .ref C :: bm) (fun A Q E s k q => wpAny_bind ((looks_clsIn X1 hcl) A _ E s k (wpAny_pure q))) rfl X1 hsup (I1.type.andThen (looks_subIn X1 Z.hB)) hCe (by decide) ?_
  have k2 : ∀ b o, h'.get? b = some o → (h'.push (kxs_mw "ValueError.__init__" e)).get? b = some o := fun b o q => Heap.get?_push_of_some _ q
  have hu2 : (h'.push (kxs_mw "ValueError.__init__" e)).get? h'.objs.size = some (kxs_mw "ValueError.__init__" e) := Heap.get?_push_at rfl rfl
  refine kxs_callWith (i := "ValueError.__init__") (x := e) rfl (evalArgs_plain (spliced_cons (wpAny_Constant_str (k := j) (pos := p3) (spliced_nil ⟨hu2, ?_⟩))))
  refine call_vw (t0 := t0) (k2 _ _ (k _ _ hCp)) (k2 _ _ (k _ _ hep)) hu2 (by show 1 ≤ sizeLine; rw [sizeLine_eq]; omega) fun h2 t1 k3 e3 => ?_
  have X3 : K.In h2 := fun a o q => k3 a o (fun z => by rw [z, hKe] at q; cases q) (k2 _ _ (X1 a o q))
  obtain ⟨oL, es, ep, hL, rL⟩ := hns
  have hL2 := k3 _ _ (Ne.symm hne) (k2 _ _ (k _ _ hL))
  refine ks_wpAt_execs_cons (ks_wpAt_Assign_Attr ?_ (s13 _))
  refine wpAt_of_wpAny (wpAny_Name (wpAny_loadName_local s8 s4 ⟨oL, es, ep, hL2, rL⟩ hx ?_) s10)
  refine wpAny_Name (wpAny_loadName_local s8 s3 ⟨oL, es, ep, hL2, rL⟩ hself ?_) (by decide)
  refine set_plain X3 (ox := HandSPX.excO C t1) (od := none) ⟨e3, rfl, rfl, trivial⟩ T.sa ?_
  refine HandSPX.exc_osa X3 e3 hcl (show HandSPX.refsVE (.ref C :: bm) = true from hbm) rfl Z.no (fun h4 tk dx k4 dn dne hx4 hn4 => ?_)
  have hsz : hp.objs.size < h2.objs.size := Heap.lt_size hL2
  have fin := hq h4 tk dx t1 (fun b o hb q => k4 b o hb (k3 b o hb (k2 _ _ (k _ _ (hk _ _ q))))) (Nat.le_trans (Nat.le_of_lt hsz) dn) hx4 hn4
  refine wpAt_of_wpAny ?_
  rw [execs_nil]
  exact wpAny_pure fin
end
open L2 in
section
variable {X : Cx} {p pos : Pos} {e : Expr} {te : TE}
def tMkA (C : Addr) (f : Str) (te : TE) : L2.St → Hp → XK → Prop := fun σ H Q => te σ H fun y H1 => ∀ d, H1 d = none → Q (.ref C) (some d) (upd H1 d (.xd [(f, y)]))
theorem un_new {fs : List Addr} {H : Hp} {hp h' : Heap} {a C dx : Addr} {f : Str} {y : V} (e : H a = some (exo a C none)) (hnd : H dx = none) (nd : ∀ {b : Addr} {o : Obj}, hp.get? b = some o → b ≠ dx) (k : ∀ b o, b ≠ a → hp.get? b = some o → h'.get? b = some o) (hx : ∃ o, h'.get? a = some o) :
    Un fs [] H (upd (upd H dx (exd dx [(f, y)])) a (exo a C (some dx))) hp h' := by
  have na : ∀ {b : Addr}, H b = none → b ≠ a := fun {b} n z => by
    rw [z, e] at n
    cases n
  exact {
    keep := fun b o q n _ _ => k b o (na n) q
    slot := fun b o q n _ _ => ⟨o.slots, k b o (na n) q⟩
    free := fun b o q n _ => by rw [upd_ne (na n), upd_ne (nd q)]; exact n
    there := fun b o q _ => by
      by_cases hb : b = a
      · rw [hb]; exact hx
      · exact ⟨o, k b o hb q⟩
    tups := fun b xs q => by rw [upd_ne (at_ne e q exo_tup), upd_ne (ne_of_none q hnd)]; exact q
    frzs := fun b o v q => by rw [upd_ne (at_ne e q exo_frz), upd_ne (ne_of_none q hnd)]; exact q
    tbls := fun b ps q => ⟨#[], by rw [upd_ne (at_ne e q exo_tbl), upd_ne (ne_of_none q hnd), q]; simp⟩ }
theorem pmk_exa {x px f : Str} {C fI : Addr} {k : Nat} (T : OexC X.K C) (Z : InitA X.prog X.K C fI px f) (iC : PySem.W.findIn X.K (.ref C) "__init__" = some (some (.ref fI))) (tI : PySem.W.typeIn X.K (.ref fI) = some (.type "function"))
    (hr : Room (k + 1) X.A) (hg : Gl X x) (hm : X.mg x = some (.ref C)) (hs : X.mg "super" = none) (ha : PE X e te)
    (hdb : (x == ("__debug__" : Str)) = false := by decide) (he : starEach [e] X.env = (false, eval e X.env) :: starEach [] X.env := by rfl) (hpl : (backTo pos (starEach [] X.env)).any (·.1) = false := by rfl) :
    PMk X (.Call (.Name x p) [e] [] pos) (tMkA C f te) := by
  intro pins s σ H Q I h
  obtain ⟨nm, q, N, bs, bm, sn, sub, ab, col, dd, k0, k1, k2, k3, k5, hC, hbm⟩ := T.cls
  refine wpAny_Call_Name_kw (ld_glob I hg hm ?_ hdb)
  refine PySem.W.callWith_K (h₀ := X.base) I.ok.mod.kin T.kC (thn ((pa_cons ha pa_nil he).run pos pins s σ H (fun vs H1 => match vs with | [y] => ∀ d, H1 d = none → Q (.ref C) (some d) (upd H1 d (.xd [(f, y)])) | _ => False) I h) fun us s1 ⟨vs, H1, I1, r1, q1⟩ => ⟨I1.kIn, ?_⟩) he hpl
  obtain ⟨y, rfl⟩ : ∃ y, vs = [y] := by
    match vs, q1 with
    | [y], _ => exact ⟨y, rfl⟩
    | [], q => exact (show False from q).elim
    | _ :: _ :: _, q => exact (show False from q).elim
  have q1 : ∀ d, H1 d = none → Q (.ref C) (some d) (upd H1 d (.xd [(f, y)])) := q1
  obtain ⟨u, rfl, ru⟩ := L2.Vals.one r1
  show wpAny _ _ (call (.ref C) [u]) _ _ _
  obtain ⟨hp, g, dr, tk, os⟩ := s1
  have hsz : hp.objs.size ≤ hp.objs.size + 1 := Nat.le_succ _
  have hn : H1 (hp.objs.size + 1) = none := I1.hok.fresh hsz
  have kk : ∀ b o, hp.get? b = some o → ((hp.push (PySem.W.kdv_tup [u])).push (PySem.HandSPX.excO C hp.objs.size)).get? b = some o := fun b o e => Heap.get?_push_of_some _ (Heap.get?_push_of_some _ e)
  have hget : ((hp.push (PySem.W.kdv_tup [u])).push (PySem.HandSPX.excO C hp.objs.size)).get? (hp.objs.size + 1) = some (PySem.HandSPX.excO C hp.objs.size) := by heap_get
  have I2 : Inv X pins σ (upd H1 (hp.objs.size + 1) (exo (hp.objs.size + 1) C none)) ⟨(hp.push (PySem.W.kdv_tup [u])).push (PySem.HandSPX.excO C hp.objs.size), g, dr, tk, os⟩ :=
    I1.laid (t' := tk) (a := hp.objs.size + 1) (o := exo (hp.objs.size + 1) C none) (h' := (hp.push (PySem.W.kdv_tup [u])).push (PySem.HandSPX.excO C hp.objs.size)) kk hsz (exo_ok hget)
  have e0 := I2.env0.make C [u] []
  have bk : ∀ b o, X.base.get? b = some o → ((hp.push (PySem.W.kdv_tup [u])).push (PySem.HandSPX.excO C hp.objs.size)).get? b = some o := fun b o e => (e0.bs b o e).1
  obtain ⟨mb, hb1, hb2⟩ := e0.mod.blt
  have hKe : X.K.lookup (hp.objs.size + 1) = none := by
    cases z : X.K.lookup (hp.objs.size + 1) with
    | none => rfl
    | some o =>
      have := Heap.lt_size (show hp.get? (hp.objs.size + 1) = some o from I1.kIn _ _ z)
      exact absurd this (Nat.not_lt.mpr (Nat.le_succ _))
  refine wpAny_call (PySem.HandSPX.call_own F.excBase_ValueError (fun Y => PySem.HandSPX.refsVE_contains Y bm hbm) (I1.kIn _ _ hC) (PySem.W.looks_findIn I1.kIn iC) (fun self => PySem.W.bind_fn I1.kIn self tI) (by show 1 ≤ sizeLine; rw [sizeLine_eq]; omega)
    (init_attr T Z I2.kIn (e0.mod.nolimit.keeps bk) (hr.make C [u] []).depth (e0.mod.glob.keeps bk) hs (hb1.keeps bk) ((hb2 "super" (by decide)).trans (by decide +kernel)) hget hKe fun h' tk' dx t1 k dn hx hns => ?_))
  have ea : upd H1 (hp.objs.size + 1) (exo (hp.objs.size + 1) C none) (hp.objs.size + 1) = some (exo (hp.objs.size + 1) C none) := upd_same
  have dne : dx ≠ hp.objs.size + 1 := fun z => by
    have := Heap.lt_size hget
    rw [z] at dn
    exact absurd dn (by show ¬ _; exact Nat.not_le.mpr this)
  have hnd : upd H1 (hp.objs.size + 1) (exo (hp.objs.size + 1) C none) dx = none := I2.hok.fresh dn
  have nd : ∀ {b : Addr} {o : Obj}, ((hp.push (PySem.W.kdv_tup [u])).push (PySem.HandSPX.excO C hp.objs.size)).get? b = some o → b ≠ dx := fun {b o} q => Nat.ne_of_lt (Nat.lt_of_lt_of_le (Heap.lt_size q) dn)
  have U : ∀ fs, Un fs [] (upd H1 (hp.objs.size + 1) (exo (hp.objs.size + 1) C none)) (upd (upd (upd H1 (hp.objs.size + 1) (exo (hp.objs.size + 1) C none)) dx (exd dx [(f, y)])) (hp.objs.size + 1) (exo (hp.objs.size + 1) C (some dx))) ((hp.push (PySem.W.kdv_tup [u])).push (PySem.HandSPX.excO C hp.objs.size)) h' := fun fs => un_new ea hnd nd k ⟨_, hx⟩
  have hok2 : HOk X.prog X.w (upd (upd (upd H1 (hp.objs.size + 1) (exo (hp.objs.size + 1) C none)) dx (exd dx [(f, y)])) (hp.objs.size + 1) (exo (hp.objs.size + 1) C (some dx))) h' := fun b o q => by
    by_cases hb : b = hp.objs.size + 1
    · subst hb
      rw [upd_same] at q
      cases q
      exact exo_ok hx
    · rw [upd_ne hb] at q
      by_cases hd : b = dx
      · subst hd
        rw [upd_same] at q
        cases q
        exact exd_ok hns (relO_put (fs := []) ru fun g => True.intro)
      · rw [upd_ne hd] at q
        exact (I2.hok b o q).stay (fun c v hc z => k c v (by
            rcases hc with hc | hc
            · rw [hc]
              exact hb
            · exact at_ne ea hc exo_own) z)
          (fun c hc => by rw [upd_ne (at_ne ea hc exo_own), upd_ne (ne_of_none hc hnd)]; exact hc) (fun c xs hc => by rw [upd_ne (at_ne ea hc exo_tup), upd_ne (ne_of_none hc hnd)]; exact hc)
  have hd1 : H1 dx = none := by rw [upd_ne dne] at hnd; exact hnd
  refine ⟨rfl, mk_end (fs := [(f, y)]) (raises_own T.exC T.tyC) I1 hsz kk (U _) hok2 rfl I1.bare upd_same (by rw [upd_ne dne]; exact upd_same) hd1 ?_⟩
  have eH : upd (del (upd (upd (upd H1 (hp.objs.size + 1) (exo (hp.objs.size + 1) C none)) dx (exd dx [(f, y)])) (hp.objs.size + 1) (exo (hp.objs.size + 1) C (some dx))) (hp.objs.size + 1)) dx (.xd [(f, y)]) = upd H1 dx (.xd [(f, y)]) := by
    funext b
    by_cases hb : b = dx
    · rw [hb, upd_same, upd_same]
    · rw [upd_ne hb, upd_ne hb]
      by_cases hb2 : b = hp.objs.size + 1
      · rw [hb2, del_same, hn]
      · rw [del_ne hb2, upd_ne hb2, upd_ne hb, upd_ne hb2]
  rw [eH]
  exact q1 dx hd1
end
abbrev supX (msg : Str) (j : Nat) (p0 p1 p2 p3 p4 : Pos) : Expr := .Call (.Attribute (.Call (.Name "super" p0) [] [] p1) "__init__" p2) [.Constant (.str msg) j p3] [] p4
def InitW (stm : Stmt) (qual x f : Str) : Prop := ∃ (msg : Str) (j : Nat) (p0 p1 p2 p3 p4 p5 p6 p7 p8 p9 : Pos) (ar : Arg),
  L2.defBody stm = [.Expr (supX msg j p0 p1 p2 p3 p4) p5, .Assign [.Attribute (.Name "self" p6) f p7] (.Name x p8) p9] ∧
  ((L2.defArgs stm).posonlyargs ++ (L2.defArgs stm).args).head? = some ar ∧ ar.arg = ("self" : Str) ∧
  (∀ (kV doc pm ct : Value) (an : Option Addr) (cda cc : Addr) (e u : Value), bindArgs (ksFn "__init__" qual (L2.defArgs stm) (L2.defBody stm) (L2.defScope stm) .none kV doc pm an (.ref cda) ct cc) ⟨[e, u], []⟩ = pure [(("self" : Str), e), (x, u)]) ∧
  (L2.defScope stm).names.lookup ("super" : Str) = some .globalImplicit ∧ (L2.defScope stm).names.lookup ("__class__" : Str) = some .free ∧ (L2.defScope stm).names.lookup ("self" : Str) = some .local ∧ (L2.defScope stm).names.lookup x = some .local ∧ (∀ y ∈ (L2.defScope stm).names, y.2 ≠ .cell) ∧
  (L2.defScope stm).isCoroutine = false ∧ (L2.defScope stm).isGenerator = false ∧ (L2.defScope stm).kind = .function ∧ x ≠ ("self" : Str) ∧ (x == ("__debug__" : Str)) = false ∧
  (∀ (L fI cda cc : Addr), interactive (ksEnv qual (L2.defScope stm) L fI (.ref cda) cc) = false) ∧ (∀ (L fI cda cc : Addr), swapsWith (supX msg j p0 p1 p2 p3 p4) none p5.line (ksEnv qual (L2.defScope stm) L fI (.ref cda) cc) = pure false) ∧
  (∀ (L fI cda cc : Addr), swapsWith (.Name x p8) (some (.Attribute (.Name "self" p6) f p7)) p9.line (ksEnv qual (L2.defScope stm) L fI (.ref cda) cc) = pure false) ∧
  ∃ pl : Sem Bool, ∀ (L fI cda cc : Addr), eval (supX msg j p0 p1 p2 p3 p4) (ksEnv qual (L2.defScope stm) L fI (.ref cda) cc) = (do
      let ov ← attributeBase (.Call (.Name "super" p0) [] [] p1) "__init__" (ksEnv qual (L2.defScope stm) L fI (.ref cda) cc) (eval (.Call (.Name "super" p0) [] [] p1) (ksEnv qual (L2.defScope stm) L fI (.ref cda) cc))
      standAt p2.atName
      let (f, first) ← holding [ov] (getMethod ov "__init__" pl)
      callWith p4 f first (backTo p4 (starEach [.Constant (.str msg) j p3] (ksEnv qual (L2.defScope stm) L fI (.ref cda) cc))) [])
theorem initA_mk {P : Program} {K : Frag} {C fI cda cc : Addr} {qual x f : Str} {stm : Stmt} {oc kV doc pm ct ccl cl : Value} {od an cdd cld : Option Addr} {osl ccs csl : Array (Option Value)} {vs : Array Value} {file : Str} {tf : Tok} (W : InitW stm qual x f)
    (h1 : K.lookup fI = some ⟨oc, od, .func (ksFn "__init__" qual (L2.defArgs stm) (L2.defBody stm) (L2.defScope stm) .none kV doc pm an (.ref cda) ct cc), osl⟩) (h2 : codeIn K (.ref cda) qual = true) (h3 : K.lookup cda = some ⟨ccl, cdd, .fields vs, ccs⟩) (h4 : vs[2]? = some (.str file tf))
    (h5 : ((P.main.file : Str) == file) = true) (h6 : K.lookup cc = some ⟨cl, cld, .cell (some (.ref C)), csl⟩) (a1 : ks_superIn K C C "__init__" = some (some (.builtin "ValueError.__init__"))) (a2 : subIn K (.ref C) (.type "ValueError") = some true) (a3 : mroIn K C (.ref C) = some true)
    (a4 : nsIn K cStatics "thirdparty.any" = some none) (a5 : findIn K (.ref C) f = some none) (a6 : (P.main.scope.names.lookup ("super" : Str)).isSome = false) : InitA P K C fI x f := by
  obtain ⟨msg, j, p0, p1, p2, p3, p4, p5, p6, p7, p8, p9, ar, e0, e1, e2, e3, e4, e5, e6, e7, e8, e9, e10, e11, e12, e13, e14, e15, e16, pl, e17⟩ := W
  rw [e0] at h1 e3
  exact ⟨a1, a2, a3, a4, a5, a6, oc, ct, .none, kV, doc, pm, od, an, cda, cc, osl, qual, _, _, msg, j, p0, p1, p2, p3, p4, p5, p6, p7, p8, p9, vs, file, tf, ccl, cl, cdd, cld, ccs, csl, ar, h1, h2, h3, h4, h5, h6, e1, e2, fun s e u => .of_eq (e3 _ _ _ _ _ _ _ e u), e4, e5, e6, e7, e8, e9, e10, e11, e12, e13,
    fun L => e14 L fI cda cc, fun L => e15 L fI cda cc, fun L => e16 L fI cda cc, pl, fun L => e17 L fI cda cc⟩
structure ExaTxt (P : Program) (K : Frag) (mg : Str → Option Value) (x : Str) (C : Addr) (f : Str) : Prop where
  g : mg x = some (.ref C)
  s : mg "super" = none
  o : L2.OexC K C
  i : ∃ (fI : Addr) (px : Str), InitA P K C fI px f ∧ findIn K (.ref C) "__init__" = some (some (.ref fI)) ∧ typeIn K (.ref fI) = some (.type "function")
open L2 in
def dRaiseA (cls : Value) (f : Str) (pe : PTE) : PTS := fun w P ρ M => pe w ρ M fun d M1 => w cls [(f, d)] ρ M1
open L2 in
theorem ds_raiseA {X : Cx} {W : WX} {x f : Str} {p pos pos2 : Pos} {C : Addr} {e : Expr} {pe : PTE} {k : Nat} (hc : X.calm = true) (tk : Takes X W) (T : ExaTxt X.prog X.K X.mg x C f) (hr : Room (k + 1) X.A) (hg : Gl X x) (he : DE X W e pe) (hdb : (x == ("__debug__" : Str)) = false := by decide)
    (hst : starEach [e] X.env = (false, eval e X.env) :: starEach [] X.env := by rfl) (hpl : (backTo pos (starEach [] X.env)).any (·.1) = false := by rfl) :
    DS X W (.Raise (some (.Call (.Name x p) [e] [] pos)) none pos2) (dRaiseA (.ref C) f pe) := by
  obtain ⟨fI, px, Z, i1, i2⟩ := T.i
  refine ps_imp (ps_raise hc tk (pmk_exa T.o Z i1 i2 hr hg T.g T.s he hdb hst hpl)) fun D σ H hE => hE.el fun g ρ M F O P w A h hw _ _ _ _ _ => ?_
  refine (.mk A h hw (fun y H1 F1 O1 M1 d1 A1 s1 r1 q1 => fun d hd => ?_))
  have s2 := same_new (o := .xd [(f, y)]) (A1.f0 hd)
  exact hw (.ref C) (some d) σ _ ρ M1 _ O1 [(f, d1)] (A1.lay hd) (s1.trans s2) ⟨[(f, y)], upd_same, rfl, ⟨y, [], rfl, Rp.mono s2 _ _ r1, rfl⟩⟩ q1
end Px
set_option Elab.async false
set_option linter.all false
set_option maxRecDepth 100000
namespace Px
open PySem PySem.Spec PyProof.Rows L2
mutual
def toE : D → PyData
  | .tup l => .tuple (toEL l)
  | .lst l => .list (toEL l)
  | .dic _ _ => .dict []
  | .int i => .int i
  | .str s => .str s
  | .bl b => .bool b
  | _ => .none
def toEL : List D → List PyData
  | [] => []
  | d :: ds => toE d :: toEL ds
end
def okE : Nat → D → Bool
  | _, .non => true
  | _, .bl _ => true
  | _, .int _ => true
  | _, .str s => PyData.strOk s
  | _, .dic [] [] => true
  | n + 1, .tup l => l.all (okE n)
  | n + 1, .lst l => l.all (okE n)
  | _, _ => false
mutual
inductive DpE (K : PySem.W.Frag) (H : Hp) : V → PyData → Prop
  | non : DpE K H .non .none
  | bl (b : Bool) : DpE K H (.bl b) (.bool b)
  | int (i : Int) : DpE K H (.int i) (.int i)
  | str (x : Str) : DpE K H (.str x) (.str x)
  | lst {a : Addr} {xs : List V} {ds : List PyData} : SqL K H a xs → DpEAll K H xs ds → DpE K H (.ref a) (.list ds)
  | tup {a : Addr} {xs : List V} {ds : List PyData} : SqT K H a xs → DpEAll K H xs ds → DpE K H (.ref a) (.tuple ds)
  | dic {a : Addr} : Rd H a (.dK []) → DpE K H (.ref a) (.dict [])
inductive DpEAll (K : PySem.W.Frag) (H : Hp) : List V → List PyData → Prop
  | nil : DpEAll K H [] []
  | cons {v : V} {vs : List V} {d : PyData} {ds : List PyData} : DpE K H v d → DpEAll K H vs ds → DpEAll K H (v :: vs) (d :: ds)
end
mutual
inductive RdE (h : Heap) : Value → PyData → Prop
  | none : RdE h .none .none
  | bool (b : Bool) : RdE h (.bool b) (.bool b)
  | int (i : Int) (t : Tok) : RdE h (.int i t) (.int i)
  | str (x : Str) (t : Tok) : RdE h (.str x t) (.str x)
  | list {a : Addr} {o : Obj} {vs : Array Value} {n : Nat} {xs : List PyData} : h.get? a = some o → o.cls = .type "list" → o.data = .seq vs n → RdEAll h vs.toList xs → RdE h (.ref a) (.list xs)
  | tuple {a : Addr} {o : Obj} {vs : Array Value} {n : Nat} {xs : List PyData} : h.get? a = some o → o.cls = .type "tuple" → o.data = .seq vs n → RdEAll h vs.toList xs → RdE h (.ref a) (.tuple xs)
  | dict {a : Addr} {o : Obj} {n : Nat} : h.get? a = some o → o.cls = .type "dict" → o.data = .dict #[] n → (a == sysModules) = false → RdE h (.ref a) (.dict [])
inductive RdEAll (h : Heap) : List Value → List PyData → Prop
  | nil : RdEAll h [] []
  | cons {v : Value} {vs : List Value} {d : PyData} {ds : List PyData} : RdE h v d → RdEAll h vs ds → RdEAll h (v :: vs) (d :: ds)
end
section
variable {h₀ : Heap}
mutual
theorem RdE.reads : ∀ {v : Value} {d : PyData}, RdE h₀ v d → ∃ as, Reads h₀ v d as
  | _, _, .none => ⟨_, .none⟩
  | _, _, .bool b => ⟨_, .bool b⟩
  | _, _, .int i t => ⟨_, .int i t⟩
  | _, _, .str x t => ⟨_, .str x t⟩
  | _, _, .list h1 h2 h3 h4 => let ⟨_, r⟩ := RdEAll.reads h4; ⟨_, .list h1 h2 h3 r⟩
  | _, _, .tuple h1 h2 h3 h4 => let ⟨_, r⟩ := RdEAll.reads h4; ⟨_, .tuple h1 h2 h3 r⟩
  | _, _, .dict h1 h2 h3 _ => ⟨_, .dict (kvs := []) (as := []) (bs := []) h1 h2 h3 .nil .nil⟩
theorem RdEAll.reads : ∀ {vs : List Value} {ds : List PyData}, RdEAll h₀ vs ds → ∃ as, ReadsAll h₀ vs ds as
  | _, _, .nil => ⟨_, .nil⟩
  | _, _, .cons r k => let ⟨_, x⟩ := RdE.reads r; let ⟨_, y⟩ := RdEAll.reads k; ⟨_, .cons x y⟩
end
variable {prog : Program} {w : World}
mutual
theorem RdE.shows : ∀ {v : Value} {d : PyData}, RdE h₀ v d → d.showable = true → d.shown.length ≤ sizeLine → ∃ bs, ReadAtMost h₀ d.depth bs ∧ ReprK prog w bs h₀ d.depth v d.shown
  | _, _, .none, _, _ => ⟨[], (fun _ z => nomatch z), by simp only [PyData.shown]; exact .of_is ReprIs.none _ _ _⟩
  | _, _, .bool b, _, _ => ⟨[], (fun _ z => nomatch z), by simp only [PyData.shown]; exact .of_is (ReprIs.bool b) _ _ _⟩
  | _, _, .int i t, hs, _ => ⟨[], (fun _ z => nomatch z), by simp only [PyData.shown]; exact .of_is (ReprIs.int t (by simpa [PyData.showable] using hs)) _ _ _⟩
  | _, _, .str x t, _, hz => ⟨[], (fun _ z => nomatch z), by simp only [PyData.shown]; exact .of_is (ReprIs.str x t (by simpa only [PyData.shown] using hz)) _ _ _⟩
  | _, _, .list (a := a) (vs := vs) (xs := xs) h1 h2 h3 h4, hs, hz => by
    have hz2 : (listText (PyData.shownAll xs)).length ≤ sizeLine := by simpa only [PyData.shown] using hz
    obtain ⟨bs, b1, b2⟩ := RdEAll.shows h4 (by simpa [PyData.showable] using hs) fun t ht => Nat.le_trans (listText_mem_le ht) hz2
    obtain ⟨as, r0⟩ := RdEAll.reads h4
    have r := Reads.list h1 h2 h3 r0
    have out := not_mem_of_deeper r (by simp only [PyData.depth]; omega) b1
    refine ⟨a :: bs, ReadAtMost.cons r (by simp only [PyData.depth]; omega) b1, ?_⟩
    simp only [PyData.depth, PyData.shown]
    obtain ⟨l⟩ := vs
    cases l with
    | nil =>
      cases (show RdEAll h₀ [] xs from h4)
      simp only [PyData.shownAll, listText_nil]
      exact ReprK.listEmpty h1 h2 h3
    | cons y l => exact ReprK.list h1 h2 h3 out (by simpa using b2.length_eq) fun i z e => b2.item i z (by simpa using e)
  | _, _, .tuple (a := a) (xs := xs) h1 h2 h3 h4, hs, hz => by
    have hz2 : (tupleText (PyData.shownAll xs)).length ≤ sizeLine := by simpa only [PyData.shown] using hz
    obtain ⟨bs, b1, b2⟩ := RdEAll.shows h4 (by simpa [PyData.showable] using hs) fun t ht => Nat.le_trans (tupleText_mem_le ht) hz2
    obtain ⟨as, r0⟩ := RdEAll.reads h4
    have r := Reads.tuple h1 h2 h3 r0
    have out := not_mem_of_deeper r (by simp only [PyData.depth]; omega) b1
    refine ⟨a :: bs, ReadAtMost.cons r (by simp only [PyData.depth]; omega) b1, ?_⟩
    simp only [PyData.depth, PyData.shown]
    exact ReprK.tuple h1 h2 h3 out b2
  | _, _, .dict (a := a) h1 h2 h3 hsys, hs, hz => by
    have r : Reads h₀ (.ref a) (.dict []) _ := .dict (kvs := []) (as := []) (bs := []) h1 h2 h3 .nil .nil
    refine ⟨[a], ReadAtMost.cons r (n := 0) (Nat.zero_le _) (fun _ z => nomatch z), ?_⟩
    simp only [PyData.depth, PyData.shown, PyData.shownKv_eq]
    exact ReprK.dict h1 h2 h3 hsys (List.not_mem_nil) ReprEntriesK.nil
theorem RdEAll.shows : ∀ {vs : List Value} {ds : List PyData}, RdEAll h₀ vs ds → PyData.showableAll ds = true → (∀ t ∈ PyData.shownAll ds, t.length ≤ sizeLine) → ∃ bs, ReadAtMost h₀ (PyData.depthAll ds) bs ∧ ReprAllK prog w bs h₀ (PyData.depthAll ds) vs (PyData.shownAll ds)
  | _, _, .nil, _, _ => ⟨[], (fun _ z => nomatch z), by simp only [PyData.shownAll]; exact .nil⟩
  | _, _, .cons (d := d) (ds := ds) r k, hs, hz => by
    obtain ⟨s1, s2⟩ : d.showable = true ∧ PyData.showableAll ds = true := by simpa [PyData.showableAll] using hs
    obtain ⟨b1, x1, x2⟩ := RdE.shows r s1 (hz _ (by simp only [PyData.shownAll]; exact List.mem_cons_self ..))
    obtain ⟨b2, y1, y2⟩ := RdEAll.shows k s2 fun t ht => hz t (by simp only [PyData.shownAll]; exact List.mem_cons_of_mem _ ht)
    refine ⟨b1 ++ b2, ?_, ?_⟩
    · simp only [PyData.depthAll]
      exact (x1.mono (Nat.le_max_left _ _)).append (y1.mono (Nat.le_max_right _ _))
    · simp only [PyData.depthAll, PyData.shownAll]
      exact .cons ((x2.more fun b hb => List.mem_append_left _ hb).level_le (Nat.le_max_left _ _)) (y2.more_le (fun b hb => List.mem_append_right _ hb) (Nat.le_max_right _ _))
end
end
section
variable {h₀ : Heap} {prog : Program} {w : World} {a : Addr} {d : PyData}
end
theorem pairs_nil {κ : Type} [DecidableEq κ] {prog : Program} {w : World} {knd : _root_.PySem.KeyKind prog w κ} {l : List DictEntry} (h : Pairs knd l []) : l = [] := by cases h; rfl
section
variable {X : Cx} {pins : List (Addr × Obj)} {σ : L2.St} {H : Hp} {s : Shared}
mutual
theorem DpE.rdE (I : Inv X pins σ H s) : ∀ (d : PyData) (v : V) (u : Value), DpE X.K H v d → RelV v u → RdE s.heap u d
  | .none, _, _, h, r => by
    cases h
    cases r
    exact .none
  | .bool b, _, _, h, r => by
    cases h
    cases r
    exact .bool b
  | .int i, _, _, h, r => by
    cases h
    obtain ⟨t, rfl⟩ := r
    exact .int i t
  | .str x, _, _, h, r => by
    cases h
    obtain ⟨t, rfl⟩ := r
    exact .str x t
  | .list ds, _, _, h, r => by
    cases h with
    | lst hs ha =>
      cases r
      obtain ⟨its, rv, ⟨o, n, ho, hc, _, hd⟩, _⟩ := I.list hs
      exact .list ho hc hd (DpE.rdEAll I ds _ its ha rv)
  | .tuple ds, _, _, h, r => by
    cases h with
    | tup hs ha =>
      cases r
      obtain ⟨its, rv, ⟨o, ho, hc, n, hd⟩, _⟩ := I.tuple hs
      exact .tuple ho hc hd (DpE.rdEAll I ds _ its ha rv)
  | .dict kvs, _, _, h, r => by
    cases h with
    | dic hd =>
      cases r
      obtain ⟨_, hsm, vs, hv, ob, es, ep, ho, hc⟩ := hd.ok I.hok
      cases hv
      obtain ⟨h1, h2, h3, h4, h5⟩ := hc
      have e0 : es = #[] := Array.toList_eq_nil_iff.mp (pairs_nil h4)
      subst e0
      exact .dict ho h1.1 h2 hsm
theorem DpE.rdEAll (I : Inv X pins σ H s) : ∀ (ds : List PyData) (vs : List V) (us : List Value), DpEAll X.K H vs ds → Vals vs us → RdEAll s.heap us ds
  | [], _, _, h, r => by
    cases h
    cases r
    exact .nil
  | d :: ds, _, _, h, r => by
    cases h with
    | cons h1 h2 =>
      cases r with
      | cons r1 r2 => exact .cons (DpE.rdE I d _ _ h1 r1) (DpE.rdEAll I ds _ _ h2 r2)
end
end
section
variable {X : Cx} {W : WX} {K : PySem.W.Frag} {a : Expr} {pa : PTE} {p pos : Pos}
end
section
variable {X : Cx} {W : WX} {a b : Expr} {rest : List Expr} {pa pb : PTE} {pos : Pos}
end
end Px
set_option Elab.async false
set_option linter.all false
set_option maxRecDepth 100000
namespace Px
open PySem PySem.Spec PyProof.Rows L2
structure ShF (n w : Nat) (d : D) : Prop where
  ok : okE n d = true
  sh : PyData.showable (toE d) = true
  lv : PyData.leavesShort 70 (toE d) = true
  wt : PyData.weight (toE d) + 1 ≤ w
  dp : (toE d).depth ≤ n + 1
structure ShFL (n w : Nat) (l : List D) : Prop where
  ok : l.all (okE n) = true
  sh : PyData.showableAll (toEL l) = true
  lv : PyData.leavesShortAll 70 (toEL l) = true
  wt : PyData.weightAll (toEL l) ≤ w
  dp : PyData.depthAll (toEL l) ≤ n + 1
theorem ShFL.all {n : Nat} : ∀ {l : List D}, (∀ d ∈ l, ShF n (sz d) d) → ShFL n (szL l) l
  | [], _ => ⟨rfl, rfl, rfl, by simp [toEL, PyData.weightAll], Nat.zero_le _⟩
  | d :: r, hh => by
    have h := hh d List.mem_cons_self
    have k := ShFL.all (l := r) fun x q => hh x (List.mem_cons_of_mem _ q)
    refine ⟨by rw [List.all_cons, h.ok, k.ok]; rfl, ?_, ?_, ?_, ?_⟩
    · show (PyData.showable (toE d) && PyData.showableAll (toEL r)) = true
      rw [h.sh, k.sh]; rfl
    · show (PyData.leavesShort 70 (toE d) && PyData.leavesShortAll 70 (toEL r)) = true
      rw [h.lv, k.lv]; rfl
    · show PyData.weight (toE d) + 1 + PyData.weightAll (toEL r) ≤ sz d + szL r
      have := h.wt; have := k.wt; omega
    · show max (toE d).depth (PyData.depthAll (toEL r)) ≤ n + 1
      exact Nat.max_le.mpr ⟨h.dp, k.dp⟩
def itemsP' : D → List D
  | .lst l => l
  | .tup l => l
  | _ => []
theorem Gd.seq {L B n : Nat} {d : D} (h : Gd L B n d) : ∀ x ∈ itemsP' d, Px.plain x = true ∧ Px.parts x = true := by
  cases d with
  | tup l => obtain ⟨m, em, h1, h2⟩ := h.tup; exact fun x hx => ⟨(h2 x hx).plain, (h2 x hx).parts⟩
  | lst l => obtain ⟨m, em, h1, h2⟩ := h.lst; exact fun x hx => ⟨(h2 x hx).plain, (h2 x hx).parts⟩
  | _ => intro x hx; cases hx
end Px
set_option Elab.async false
set_option linter.all false
set_option maxRecDepth 100000
namespace Px
open PySem PySem.Spec PyProof.Rows L2
end Px
set_option Elab.async false
set_option linter.all false
set_option maxRecDepth 100000
namespace Px
open PySem PySem.Spec PyProof.Rows L2
section
open Builtin
variable {prog : Program} {w : World} {A : Around} {E : Value → Shared → Prop} {s : Shared} {K : PySem.W.Frag} {x C L f : Addr} {h₀ : Heap} {m : Str → Option Value} {ox : Obj} {od : Option Obj} {b tb : Value}
end
section
variable {X : Cx} {W : WX} {k n : Nat} {f C : Addr} {fd : FuncData} {ps : List Str} {sp : PSp} {pos : Pos} {a b : Expr} {pa pb : PTE}
end
end Px
set_option Elab.async false
set_option linter.all false
set_option maxRecDepth 100000
namespace Px
open PySem PySem.Spec PyProof.Rows L2
section
variable {X : Cx} {W : WX} {k n : Nat} {f C : Addr} {fd : FuncData} {ps ks : List Str} {sp : PSp} {m : Str} {pos apos : Pos} {o : Expr} {kws : List Keyword} {ix : List Nat} {po : PTE} {pl : PTA}
end
end Px
set_option Elab.async false
set_option linter.all false
set_option maxRecDepth 100000
namespace Px
open PySem PySem.Spec PyProof.Rows L2
section
variable {X : Cx} {W : WX} {k n : Nat} {f C : Addr} {fd : FuncData} {ps : List Str} {sp : PSp} {pos : Pos} {a b : Expr} {pa pb : PTE} {x qual : Str} {st : Stmt}
end
end Px
set_option Elab.async false
set_option linter.all false
set_option maxRecDepth 100000
namespace Px
open PySem PySem.Spec PyProof.Rows L2
structure PropT (K : PySem.W.Frag) (C : Addr) (x qual : Str) (stm : Stmt) (g : Addr) (fd : FuncData) : Prop where
  f : L2.Fun K x qual stm g fd
  b : Binds K fd ["self"] []
  pr : ∃ p, PropOf K C x p g
theorem PropT.fn {P : Program} {w : World} {K : PySem.W.Frag} {mg : Str → Option Value} {base : Heap} {k : Nat} {C g : Addr} {f pf qual : Str} {stm : Stmt} {fd : FuncData} {N : List Str} {p1 p2 p3 : Pos} (t : PropT K C f qual stm g fd) (S : FnScope N ["self"] (defScope stm))
    (hN : N[0]? = some ("self" : Str)) (hb : defBody stm = [.Return (some (.Attribute (.Name "self" p1) pf p2)) p3]) (c : Cls K C) (n : NoAttr K C pf) : FnOk P w K mg base (fun _ _ _ _ _ _ => False) (k + 1) g fd ["self"] (getSp C pf) := by
  obtain ⟨oc, od, kV, doc, pm, an, cdv, ct, osl, rfl, lk, hcd⟩ := t.f.ex
  exact fn_getter lk hcd S hN hb c n
end Px
set_option Elab.async false
set_option linter.all false
set_option maxRecDepth 100000
namespace Px
open PySem PySem.Spec PyProof.Rows L2
section
variable {X : Cx} {W : WX} {k n : Nat} {f C : Addr} {fd : FuncData} {ps : List Str} {sp : PSp} {pos : Pos} {a b : Expr} {pa pb : PTE}
end
end Px
set_option Elab.async false
set_option linter.all false
set_option maxRecDepth 100000
namespace Px
open PySem PySem.Spec PyProof.Rows L2
section
variable {X : Cx} {W : WX} {k n : Nat} {f C : Addr} {fd : FuncData} {ps : List Str} {sp : PSp} {pos : Pos} {a b : Expr} {pa pb : PTE}
end
end Px
set_option Elab.async false
set_option linter.all false
set_option maxRecDepth 100000
namespace Px
open PySem PySem.Spec PyProof.Rows L2
section
variable {P : Program} {w : World} {A : Around} {E : Value → Shared → Prop} {s : Shared}
set_option maxRecDepth 100000 in
set_option maxHeartbeats 3200000 in
theorem call_set_lstI {l : Addr} {items : Array Value} (ns : List Int) {Q : Value → Shared → Prop} (hh : A.handled = none) (hl : s.heap.IsList l items) (hit : IntsAre items.toList ns) (hb : ns.length + 1 < scanBound)
    (h : ∀ (h' : Heap) (tk c : Nat), SetR w h' s.heap.objs.size (fun j => decide (j ∈ ns)) c → c ≤ ns.length → (∀ b o, s.heap.get? b = some o → h'.get? b = some o) → Q (.ref s.heap.objs.size) { s with heap := h', toks := tk }) :
    wpAny (model P w) A (call (.type "set") [.ref l]) Q E s := by
  have hisz : items.size = ns.length := by
    have q := IntsAre.length hit
    rw [Array.length_toList] at q
    exact q
  obtain ⟨c, tl, hmro⟩ := PySem.F.called_set.mro
  have hmade := PySem.F.called_set.made
  have hsub := PySem.F.called_set.sub
  refine wpAny_call (codeAny_of_tree ?_)
  show wpAny _ _ (callAny (.type "set") _) _ _ _
  refine wpAny_pure ⟨Code.quiet_builtin _ (by decide +kernel), codeAny_builtin PySem.F.entry_type_call ?_⟩
  rw [Around.under_plain (weight_type_call_type "set" [.ref l] []) rfl]
  have h1 := PySem.F.called_set.notType
  have h2 := PySem.F.called_set.canCreate
  have hct := PySem.F.typeCall_set_1 (.ref l)
  repeat (any_goals (first | assumption | wp_step))
  refine codeAny_mono (code_set_led1 (.ref l) (E := E) (Q₁ := fun obj s₁ => obj = .ref s.heap.objs.size ∧ s₁ = { s with heap := s.heap.push { cls := .type "set", dict := none, data := .set #[] 0 (.fresh 0 0 (!w.params.followText "set-order")) } }) ⟨rfl, rfl⟩) fun r s₁ hr => ?_
  cases r with
  | error e => exact hr
  | ok fl =>
    cases fl with
    | ret obj =>
      obtain ⟨rfl, rfl⟩ := hr
      have hS : (s.heap.push { cls := .type "set", dict := none, data := .set #[] 0 (.fresh 0 0 (!w.params.followText "set-order")) }).get? s.heap.objs.size = some { cls := .type "set", dict := none, data := .set #[] 0 (.fresh 0 0 (!w.params.followText "set-order")) } := Heap.get?_push_size _ rfl
      have hT : Shared.TypeIs { s with heap := s.heap.push { cls := .type "set", dict := none, data := .set #[] 0 (.fresh 0 0 (!w.params.followText "set-order")) } } (.ref s.heap.objs.size) "set" := ⟨_, hS, rfl⟩
      have hli := PySem.F.called_set.init.lookup
      have hbi := PySem.F.called_set.init.bind (.ref s.heap.objs.size)
      repeat (any_goals (first | assumption | wp_step))
      refine codeAny_mono (codeAny_call_builtin (R := wants (fun r s₂ => r = .none ∧ ∃ h' tk c, s₂ = { s with heap := h', toks := tk } ∧ SetR w h' s.heap.objs.size (fun j => decide (j ∈ ns)) c ∧ c ≤ ns.length ∧
          (∀ b o, s.heap.get? b = some o → h'.get? b = some o)) E) PySem.F.called_set.init.plain PySem.F.entry_set_init (check_set_init_1 hT ?_)) fun r₂ s₂ hr₂ => ?_
      · obtain ⟨ol, hol, hcl, nl, hdl⟩ := hl
        obtain ⟨ocls, odict, odata, oslots⟩ := ol
        simp only at hcl hdl
        subst hcl; subst hdl
        have hol' : (s.heap.push { cls := .type "set", dict := none, data := .set #[] 0 (.fresh 0 0 (!w.params.followText "set-order")) }).get? l = some { cls := .type "list", dict := odict, data := .seq items nl, slots := oslots } := Heap.get?_push_of_some _ hol
        have hsls := PySem.F.sub_list_set
        have hslf := PySem.F.sub_list_frozenset
        have hne : (Value.type "list" == Value.type "dict") = false := by decide
        have hl1 : (s.heap.push { cls := .type "set", dict := none, data := .set #[] 0 (.fresh 0 0 (!w.params.followText "set-order")) }).IsList l items := ⟨_, hol', rfl, nl, rfl⟩
        unfold Builtin.«set.__init__» noKeywords Builtin.Frozenset.updateFrom
        generalize hPI : pyIter = PI
        wp_walk
        subst hPI
        refine wpAny_pyIter_list hl1 ?_
        refine wpAny_bind (wpAny_runValue ?_)
        have hlS : l < s.heap.objs.size := Heap.lt_size hol
        have hh3 : A.in1.in1.in1.handled = none := by simp [hh]
        have hz1 : (s.heap.push { cls := .type "set", dict := none, data := .set #[] 0 (.fresh 0 0 (!w.params.followText "set-order")) }).objs.size = s.heap.objs.size + 1 := Heap.size_push ..
        have hneI : l ≠ (s.heap.push { cls := .type "set", dict := none, data := .set #[] 0 (.fresh 0 0 (!w.params.followText "set-order")) }).objs.size := by
          rw [Heap.size_push]; exact Nat.ne_of_lt (Nat.lt_succ_of_lt hlS)
        have hSf : s.heap.objs.size ∉ [(s.heap.push { cls := .type "set", dict := none, data := .set #[] 0 (.fresh 0 0 (!w.params.followText "set-order")) }).objs.size, l] := by
          rw [Heap.size_push]; simp only [List.mem_cons, List.mem_singleton, List.not_mem_nil, or_false, not_or]
          exact ⟨Nat.ne_of_lt (Nat.lt_succ_self _), Nat.ne_of_gt hlS⟩
        have hval : ∀ (i : Nat) (v : Value), items[i]? = some v → ∃ k t, ns[i]? = some k ∧ v = .int k t := fun i v hv => by
          have hi : i < ns.length := by rw [← hisz]; exact (Array.getElem?_eq_some_iff.mp hv).1
          obtain ⟨t, e⟩ := PyProof.Rows.IntsAre.int_at hit i v (by rw [Array.getElem?_toList]; exact hv)
          refine ⟨ns[i], t, List.getElem?_eq_getElem hi, ?_⟩
          rw [e, List.getD_eq_getElem?_getD, List.getElem?_eq_getElem hi] <;> rfl
        refine set_update_ints ((Walks.list hh3 _ l hneI items).toS) s.heap.objs.size
          hSf ns hisz hb hval (items.size - 0) 0 _ (by omega) (Nat.zero_le _)
          ⟨⟨_, Heap.get?_push_size _ rfl, rfl, rfl⟩, (hl1.push _)⟩ ?hS0 ?hR
        case hS0 =>
          have hget : ((s.heap.push { cls := .type "set", dict := none, data := .set #[] 0 (.fresh 0 0 (!w.params.followText "set-order")) }).push { cls := .type "list_iterator", data := .fields #[.ref l, .int 0 0] }).get? s.heap.objs.size
              = some { cls := .type "set", dict := none, data := .set #[] 0 (.fresh 0 0 (!w.params.followText "set-order")) } := Heap.get?_push_of_some _ hS
          exact ⟨0, Nat.le_refl 0, setR_new_at hget⟩
        case hR =>
          intro s' c' hm hc' hS'
          obtain ⟨h', g2, d', tk', os'⟩ := s'
          have eg : g2 = s.gens := hm.gens
          have ed : d' = s.drawn := hm.drawn
          have eo : os' = s.os := hm.os
          subst eg; subst ed; subst eo
          show wpAny _ _ _ _ _ _
          refine wpAny_pure ?_
          show wpAny _ _ (ret Value.none) _ _ _
          rw [hisz] at hc'
          refine wpAny_pure ⟨rfl, h', tk', c', rfl, hS', hc', fun b o e => ?_⟩
          have hb0 : b < s.heap.objs.size := Heap.lt_size e
          have hb1 : b ≠ s.heap.objs.size := Nat.ne_of_lt hb0
          have hb2 : b ≠ (s.heap.push { cls := .type "set", dict := none, data := .set #[] 0 (.fresh 0 0 (!w.params.followText "set-order")) }).objs.size := by
            rw [Heap.size_push]; exact Nat.ne_of_lt (Nat.lt_succ_of_lt hb0)
          exact hm.heap b o (by simp only [List.mem_cons, List.mem_singleton, List.not_mem_nil, or_false, not_or]; exact ⟨hb1, hb2⟩) (Heap.get?_push_of_some _ (Heap.get?_push_of_some _ e))
      · cases r₂ with
        | error e => exact hr₂
        | ok fl₂ =>
          cases fl₂ with
          | ret r =>
            obtain ⟨rfl, h', tk, c', rfl, hS', hc', hk'⟩ := hr₂
            repeat (any_goals (first | assumption | wp_step))
            exact h _ _ _ hS' hc' hk'
          | _ => exact hr₂.elim
    | _ => exact hr.elim
set_option maxRecDepth 100000 in
set_option maxHeartbeats 3200000 in
theorem call_set_tupI {l : Addr} {items : Array Value} (ns : List Int) {Q : Value → Shared → Prop} (hh : A.handled = none) (hl : s.heap.IsTuple l items) (hit : IntsAre items.toList ns) (hb : ns.length + 1 < scanBound)
    (h : ∀ (h' : Heap) (tk c : Nat), SetR w h' s.heap.objs.size (fun j => decide (j ∈ ns)) c → c ≤ ns.length → (∀ b o, s.heap.get? b = some o → h'.get? b = some o) → Q (.ref s.heap.objs.size) { s with heap := h', toks := tk }) :
    wpAny (model P w) A (call (.type "set") [.ref l]) Q E s := by
  have hisz : items.size = ns.length := by
    have q := IntsAre.length hit
    rw [Array.length_toList] at q
    exact q
  obtain ⟨c, tl, hmro⟩ := PySem.F.called_set.mro
  have hmade := PySem.F.called_set.made
  have hsub := PySem.F.called_set.sub
  refine wpAny_call (codeAny_of_tree ?_)
  show wpAny _ _ (callAny (.type "set") _) _ _ _
  refine wpAny_pure ⟨Code.quiet_builtin _ (by decide +kernel), codeAny_builtin PySem.F.entry_type_call ?_⟩
  rw [Around.under_plain (weight_type_call_type "set" [.ref l] []) rfl]
  have h1 := PySem.F.called_set.notType
  have h2 := PySem.F.called_set.canCreate
  have hct := PySem.F.typeCall_set_1 (.ref l)
  repeat (any_goals (first | assumption | wp_step))
  refine codeAny_mono (code_set_led1 (.ref l) (E := E) (Q₁ := fun obj s₁ => obj = .ref s.heap.objs.size ∧ s₁ = { s with heap := s.heap.push { cls := .type "set", dict := none, data := .set #[] 0 (.fresh 0 0 (!w.params.followText "set-order")) } }) ⟨rfl, rfl⟩) fun r s₁ hr => ?_
  cases r with
  | error e => exact hr
  | ok fl =>
    cases fl with
    | ret obj =>
      obtain ⟨rfl, rfl⟩ := hr
      have hS : (s.heap.push { cls := .type "set", dict := none, data := .set #[] 0 (.fresh 0 0 (!w.params.followText "set-order")) }).get? s.heap.objs.size = some { cls := .type "set", dict := none, data := .set #[] 0 (.fresh 0 0 (!w.params.followText "set-order")) } := Heap.get?_push_size _ rfl
      have hT : Shared.TypeIs { s with heap := s.heap.push { cls := .type "set", dict := none, data := .set #[] 0 (.fresh 0 0 (!w.params.followText "set-order")) } } (.ref s.heap.objs.size) "set" := ⟨_, hS, rfl⟩
      have hli := PySem.F.called_set.init.lookup
      have hbi := PySem.F.called_set.init.bind (.ref s.heap.objs.size)
      repeat (any_goals (first | assumption | wp_step))
      refine codeAny_mono (codeAny_call_builtin (R := wants (fun r s₂ => r = .none ∧ ∃ h' tk c, s₂ = { s with heap := h', toks := tk } ∧ SetR w h' s.heap.objs.size (fun j => decide (j ∈ ns)) c ∧ c ≤ ns.length ∧
          (∀ b o, s.heap.get? b = some o → h'.get? b = some o)) E) PySem.F.called_set.init.plain PySem.F.entry_set_init (check_set_init_1 hT ?_)) fun r₂ s₂ hr₂ => ?_
      · obtain ⟨ol, hol, hcl, nl, hdl⟩ := hl
        obtain ⟨ocls, odict, odata, oslots⟩ := ol
        simp only at hcl hdl
        subst hcl; subst hdl
        have hol' : (s.heap.push { cls := .type "set", dict := none, data := .set #[] 0 (.fresh 0 0 (!w.params.followText "set-order")) }).get? l = some { cls := .type "tuple", dict := odict, data := .seq items nl, slots := oslots } := Heap.get?_push_of_some _ hol
        have hsls := PySem.F.sub_tuple_set
        have hslf := PySem.F.sub_tuple_frozenset
        have hne : (Value.type "tuple" == Value.type "dict") = false := by decide
        have hl1 : (s.heap.push { cls := .type "set", dict := none, data := .set #[] 0 (.fresh 0 0 (!w.params.followText "set-order")) }).IsTuple l items := ⟨_, hol', rfl, nl, rfl⟩
        unfold Builtin.«set.__init__» noKeywords Builtin.Frozenset.updateFrom
        generalize hPI : pyIter = PI
        wp_walk
        subst hPI
        refine wpAny_pyIter_tuple hl1 ?_
        refine wpAny_bind (wpAny_runValue ?_)
        have hlS : l < s.heap.objs.size := Heap.lt_size hol
        have hh3 : A.in1.in1.in1.handled = none := by simp [hh]
        have hz1 : (s.heap.push { cls := .type "set", dict := none, data := .set #[] 0 (.fresh 0 0 (!w.params.followText "set-order")) }).objs.size = s.heap.objs.size + 1 := Heap.size_push ..
        have hneI : l ≠ (s.heap.push { cls := .type "set", dict := none, data := .set #[] 0 (.fresh 0 0 (!w.params.followText "set-order")) }).objs.size := by
          rw [Heap.size_push]; exact Nat.ne_of_lt (Nat.lt_succ_of_lt hlS)
        have hSf : s.heap.objs.size ∉ [(s.heap.push { cls := .type "set", dict := none, data := .set #[] 0 (.fresh 0 0 (!w.params.followText "set-order")) }).objs.size, l] := by
          rw [Heap.size_push]; simp only [List.mem_cons, List.mem_singleton, List.not_mem_nil, or_false, not_or]
          exact ⟨Nat.ne_of_lt (Nat.lt_succ_self _), Nat.ne_of_gt hlS⟩
        have hval : ∀ (i : Nat) (v : Value), items[i]? = some v → ∃ k t, ns[i]? = some k ∧ v = .int k t := fun i v hv => by
          have hi : i < ns.length := by rw [← hisz]; exact (Array.getElem?_eq_some_iff.mp hv).1
          obtain ⟨t, e⟩ := PyProof.Rows.IntsAre.int_at hit i v (by rw [Array.getElem?_toList]; exact hv)
          refine ⟨ns[i], t, List.getElem?_eq_getElem hi, ?_⟩
          rw [e, List.getD_eq_getElem?_getD, List.getElem?_eq_getElem hi] <;> rfl
        refine set_update_ints ((Walks.tuple hh3 _ l hneI items).toS) s.heap.objs.size
          hSf ns hisz hb hval (items.size - 0) 0 _ (by omega) (Nat.zero_le _)
          ⟨⟨_, Heap.get?_push_size _ rfl, rfl, rfl⟩, (hl1.push _)⟩ ?hS0 ?hR
        case hS0 =>
          have hget : ((s.heap.push { cls := .type "set", dict := none, data := .set #[] 0 (.fresh 0 0 (!w.params.followText "set-order")) }).push { cls := .type "tuple_iterator", data := .fields #[.ref l, .int 0 0] }).get? s.heap.objs.size
              = some { cls := .type "set", dict := none, data := .set #[] 0 (.fresh 0 0 (!w.params.followText "set-order")) } := Heap.get?_push_of_some _ hS
          exact ⟨0, Nat.le_refl 0, setR_new_at hget⟩
        case hR =>
          intro s' c' hm hc' hS'
          obtain ⟨h', g2, d', tk', os'⟩ := s'
          have eg : g2 = s.gens := hm.gens
          have ed : d' = s.drawn := hm.drawn
          have eo : os' = s.os := hm.os
          subst eg; subst ed; subst eo
          show wpAny _ _ _ _ _ _
          refine wpAny_pure ?_
          show wpAny _ _ (ret Value.none) _ _ _
          rw [hisz] at hc'
          refine wpAny_pure ⟨rfl, h', tk', c', rfl, hS', hc', fun b o e => ?_⟩
          have hb0 : b < s.heap.objs.size := Heap.lt_size e
          have hb1 : b ≠ s.heap.objs.size := Nat.ne_of_lt hb0
          have hb2 : b ≠ (s.heap.push { cls := .type "set", dict := none, data := .set #[] 0 (.fresh 0 0 (!w.params.followText "set-order")) }).objs.size := by
            rw [Heap.size_push]; exact Nat.ne_of_lt (Nat.lt_succ_of_lt hb0)
          exact hm.heap b o (by simp only [List.mem_cons, List.mem_singleton, List.not_mem_nil, or_false, not_or]; exact ⟨hb1, hb2⟩) (Heap.get?_push_of_some _ (Heap.get?_push_of_some _ e))
      · cases r₂ with
        | error e => exact hr₂
        | ok fl₂ =>
          cases fl₂ with
          | ret r =>
            obtain ⟨rfl, h', tk, c', rfl, hS', hc', hk'⟩ := hr₂
            repeat (any_goals (first | assumption | wp_step))
            exact h _ _ _ hS' hc' hk'
          | _ => exact hr₂.elim
    | _ => exact hr.elim
end
section
variable {X : Cx} {W : WX} {a : Expr} {pa : PTE} {p p2 pos pos2 : Pos}
def rSetI (K : PySem.W.Frag) (w : World) : List V → Hp → VK → Prop := fun xs H Q => ∃ (p : Addr) (ns : List Int), xs = [V.ref p] ∧ (SqL K H p (ns.map V.int) ∨ SqT K H p (ns.map V.int)) ∧ ns.length ≤ 1000 ∧ ∀ D c, H D = none → c ≤ ns.length → Q (.ref D) (upd H D (SetO w D (fun j => decide (j ∈ ns)) c))
theorem cr_setI (hc : X.calm = true) : CallR X (.type "set") (rSetI X.K X.w) := by
  intro pins s σ H xs us Q I r h
  obtain ⟨p, ns, rfl, hs, hl, q⟩ := h
  rw [Vals.ref1 r]
  have hb : ns.length + 1 < scanBound := by
    have : (1000 : Nat) + 1 < scanBound := by decide
    omega
  have hn : H s.heap.objs.size = none := I.hok.fresh (Nat.le_refl _)
  rcases hs with hs | hs
  · obtain ⟨its, rv, pl, hz⟩ := I.list hs
    have hi : IntsAre its.toArray.toList ns := ints_of_vals rv
    refine call_set_lstI ns (I.ok.hd hc) (show s.heap.IsList p its.toArray from pl.isList) hi hb fun h' tk c R hcn k => ?_
    exact ⟨.ref _, upd H s.heap.objs.size (SetO X.w s.heap.objs.size (fun j => decide (j ∈ ns)) c), I.laid (t' := tk) (fun b u e => k b u e) (Nat.le_refl _) (setO_new R), rfl, q _ c hn hcn⟩
  · obtain ⟨its, rv, pl, hz⟩ := I.tuple hs
    have hi : IntsAre its.toArray.toList ns := ints_of_vals rv
    refine call_set_tupI ns (I.ok.hd hc) (show s.heap.IsTuple p its.toArray from pl) hi hb fun h' tk c R hcn k => ?_
    exact ⟨.ref _, upd H s.heap.objs.size (SetO X.w s.heap.objs.size (fun j => decide (j ∈ ns)) c), I.laid (t' := tk) (fun b u e => k b u e) (Nat.le_refl _) (setO_new R), rfl, q _ c hn hcn⟩
def dSortL (pe : PTE) : PTA := fun w ρ M q => pe w ρ M fun d M1 => ∃ ns : List Int, (d = .lst (ns.map .int) ∨ d = .tup (ns.map .int)) ∧ ns.length < 64 ∧ ∀ ms : List Int, ms.Pairwise (· < ·) → (∀ k, k ∈ ms ↔ k ∈ ns) → ms.length < 64 → q (ms.map .int) M1
theorem rpl_ints {K : PySem.W.Frag} {F : Hp} : ∀ {ns : List Int} {xs : List V}, RpL K F (ns.map .int) xs → xs = ns.map V.int
  | [], xs, h => h
  | n :: r, xs, h => by
    obtain ⟨v, t, e1, h1, h2⟩ := h
    have e2 : v = V.int n := h1
    rw [e1, e2, rpl_ints h2]; rfl
theorem dl_sortSetL (hc : X.calm = true) (hgs : Gl X "set") (hms : X.mg "set" = none) (hg : Gl X "sorted") (hm : X.mg "sorted" = none) (ha : DO X W a pa)
    (he : starEach [a] X.env = (false, eval a X.env) :: starEach [] X.env := by rfl) (hpl : (backTo pos (starEach [] X.env)).any (·.1) = false := by rfl)
    (he2 : starEach [Expr.Call (.Name "set" p) [a] [] pos] X.env = (false, eval (.Call (.Name "set" p) [a] [] pos) X.env) :: starEach [] X.env := by rfl) (hpl2 : (backTo pos2 (starEach [] X.env)).any (·.1) = false := by rfl) :
    DL X W (.Call (.Name "sorted" p2) [.Call (.Name "set" p) [a] [] pos] [] pos2) (dSortL pa) :=
  pe_imp (pe_callB (cr_sortedSet hc) hg hm (by decide +kernel) (pa_cons (pe_callTy (cr_setI hc) hgs hms (by decide +kernel) (pa_cons ha pa_nil he) (by decide) (by decide) he hpl) pa_nil he2) (by decide) (by decide) he2 hpl2) fun σ H Q hE => hE.el fun g ρ M F O q w A pr hw k => by
    refine (.mk A pr hw (fun v H1 F1 O1 M1 d A1 s1 r1 q1 => ?_))
    obtain ⟨ns, hd, hl, q1⟩ := q1
    obtain ⟨pp, e1, hs⟩ : ∃ pp, v = V.ref pp ∧ (SqL X.K H1 pp (ns.map V.int) ∨ SqT X.K H1 pp (ns.map V.int)) := by
      rcases hd with rfl | rfl
      · obtain ⟨pp, xs, e1, h1, rl⟩ := r1.lst A1
        have ex := rpl_ints rl
        subst ex
        exact ⟨pp, e1, .inl (.inl (.inl h1))⟩
      · obtain ⟨pp, xs, e1, h1, rl⟩ := r1.tup A1
        have ex := rpl_ints rl
        subst ex
        exact ⟨pp, e1, .inr h1⟩
    refine ⟨pp, ns, by rw [e1], hs, by omega, fun D c hD hcn => ?_⟩
    have A2 := A1.laid (o := SetO X.w D (fun j => decide (j ∈ ns)) c) hD
    refine ⟨D, _, c, rfl, upd_same, by omega, fun ms p' h2 h3 h4 h5 => ?_⟩
    have q3 := q1 ms h2 (fun j => (h3 j).trans decide_eq_true_iff) (by omega)
    exact k p' (ms.map V.int) _ F1 O1 M1 _ (A2.laid h5) s1 upd_same (RpL.of_ints ms) (A2.f0 h5) (A2.o0 h5) (A2.g0 h5) q3
end
end Px
set_option Elab.async false
set_option linter.all false
set_option maxRecDepth 100000
namespace Px
open PySem PySem.Spec PyProof.Rows L2
section
variable {X : Cx} {W : WX} {a b o e : Expr} {pa pb po pe : PTE} {p p2 pos pos2 apos : Pos}
end
end Px
set_option Elab.async false
set_option linter.all false
set_option maxRecDepth 100000
namespace Px
open PySem PySem.Spec PyProof.Rows L2
section
variable {X : Cx} {W : WX} {k n : Nat} {f C : Addr} {fd : FuncData} {ps ks : List Str} {sp : PSp} {x : Str} {p pos : Pos} {kws : List Keyword} {ix : List Nat} {pl : PTA}
end
end Px
set_option Elab.async false
set_option linter.all false
set_option maxRecDepth 100000
namespace Px
open PySem PySem.Spec PyProof.Rows L2
section
variable {X : Cx} {W : WX} {k n : Nat} {f C : Addr} {fd : FuncData} {ps : List Str} {sp : PSp} {pos : Pos} {a b : Expr} {pa pb : PTE}
end
end Px
set_option Elab.async false
set_option linter.all false
set_option maxRecDepth 100000
namespace Px
open PySem PySem.Spec PyProof.Rows L2
def chS (s : Str) : List D := s.cps.toList.map fun c => .str ⟨#[c]⟩
section
variable {X : Cx} {W : WX} {a b e i : Expr} {tg : Expr} {pa pb pe : PTE} {pos : Pos}
end
end Px
set_option Elab.async false
set_option linter.all false
set_option maxRecDepth 100000
namespace Px
open PySem PySem.Spec PyProof.Rows L2
section
variable {X : Cx} {W : WX} {k n : Nat} {f C : Addr} {fd : FuncData} {ps : List Str} {sp : PSp} {pos p : Pos} {a : Expr} {pa : PTE}
end
end Px
set_option Elab.async false
set_option linter.all false
set_option maxRecDepth 100000
namespace Px
open PySem PySem.Spec PyProof.Rows L2
section
variable {K : PySem.W.Frag} {X : Cx} {W : WX} {a b : Expr} {pa pb : PTE} {pos : Pos}
end
end Px
set_option Elab.async false
set_option linter.all false
set_option maxRecDepth 100000
namespace Px
open PySem PySem.Spec PyProof.Rows L2
section
variable {X : Cx} {W : WX} {a b : Expr} {pa pb : PTE} {pos : Pos}
end
end Px
set_option Elab.async false
set_option linter.all false
set_option maxRecDepth 100000
namespace Px
open PySem PySem.Spec PyProof.Rows L2
structure CallOk (K : PySem.W.Frag) (C g : Addr) : Prop where
  at_ : PySem.W.findIn K (.ref C) "__call__" = some (some (.ref g))
  fn : PySem.W.isFn K (.ref g) = true
  fi : PySem.W.fnIn K g = true
section
variable {X : Cx} {W : WX} {k n : Nat} {f C : Addr} {fd : FuncData} {ps ks : List Str} {sp : PSp} {pos : Pos} {fe e : Expr} {es : List Expr} {kws : List Keyword} {ix : List Nat} {po : PTE} {pl : PTA}
end
section
variable {X : Cx} {W : WX} {pb : PTE} {pl : PTA}
end
end Px
set_option Elab.async false
set_option linter.all false
set_option maxRecDepth 100000
namespace Px
open PySem PySem.Spec PyProof.Rows L2
section
variable {X : Cx} {pos : Pos}
end
section
variable {X : Cx} {W : WX} {pe : PTE} {pos : Pos}
end
end Px
set_option Elab.async false
set_option linter.all false
set_option maxRecDepth 100000
namespace Px
open PySem PySem.Spec PyProof.Rows L2
abbrev PSpT := List D → Mm → (List D → D → Mm → Prop) → PX → Prop
structure PairOf (K : PySem.W.Frag) (g : Addr → Option HO) (H F : Hp) (O : Own) (p a : Addr) (v : V) (xs : List V) (ls : List D) (d : D) : Prop where
  hp : H p = some (.tup [.ref a, v])
  ha : H a = some (.lst xs)
  rl : RpL K F ls xs
  fa : F a = none
  oa : O a = none
  ga : g a = none
  rv : Rp K F d v
section
variable {X : Cx} {W : WX} {pe : PTE} {pl : PTA} {pos : Pos}
end
section
variable {P : Program} {w : World} {K : PySem.W.Frag} {mg : Str → Option Value} {base : Heap} {k : Nat} {f : Addr} {fd : FuncData} {ps N : List Str}
end
section
variable {X : Cx} {W : WX} {k n : Nat} {f : Addr} {fd : FuncData} {ps : List Str} {sp : PSpT} {x : Str} {p pos : Pos} {e : Expr} {es : List Expr} {pl : PTA} {pt : PWi → Rho → Mm → (List D → D → Mm → Prop) → Prop}
end
end Px
set_option Elab.async false
set_option linter.all false
set_option maxRecDepth 100000
namespace Px
open PySem PySem.Spec PyProof.Rows L2
mutual
def noL : D → Bool
  | .non | .bl _ | .int _ | .str _ => true
  | .tup l => noLL l
  | .obj _ _ l => noLL l
  | .lst _ | .dic _ _ | .raw _ | .scr _ | .clo _ _ _ _ _ | .fnc _ _ _ _ | .exv _ _ _ _ _ => false
def noLL : List D → Bool
  | [] => true
  | d :: r => noL d && noLL r
end
section
variable {K : PySem.W.Frag} {F F2 : Hp}
mutual
theorem Rp.noL (e : ∀ a o, F a = some o → (∀ xs, o ≠ .lst xs) → F2 a = some o) : ∀ (d : D) (v : V), Px.noL d = true → Rp K F d v → Rp K F2 d v
  | .non, _, _, h => h
  | .bl _, _, _, h => h
  | .int _, _, _, h => h
  | .str _, _, _, h => h
  | .tup l, _, n, ⟨a, xs, e1, s, r⟩ => ⟨a, xs, e1, by
      rcases s with (s | ⟨o, s⟩) | s
      · exact .inl (.inl (e a _ s fun _ z => by cases z))
      · exact .inl (.inr ⟨o, e a _ s fun _ z => by cases z⟩)
      · exact .inr s, RpL.noL e l xs n r⟩
  | .obj _ _ l, _, n, ⟨a, dx, fs, e1, s, k, r⟩ => ⟨a, dx, fs, e1, e a _ s (fun _ z => by cases z), k, RpL.noL e l _ n r⟩
  | .lst _, _, n, _ => by cases n
  | .dic _ _, _, n, _ => by cases n
  | .raw _, _, n, _ => by cases n
  | .scr _, _, n, _ => by cases n
  | .clo _ _ _ _ _, _, n, _ => by cases n
  | .fnc _ _ _ _, _, n, _ => by cases n
  | .exv _ _ _ _ _, _, n, _ => by cases n
theorem RpL.noL (e : ∀ a o, F a = some o → (∀ xs, o ≠ .lst xs) → F2 a = some o) : ∀ (l : List D) (xs : List V), noLL l = true → RpL K F l xs → RpL K F2 l xs
  | [], _, _, h => h
  | d :: l, _, n, ⟨x, r, e1, h, t⟩ => by
    have n : (Px.noL d && noLL l) = true := n
    rw [Bool.and_eq_true] at n
    exact ⟨x, r, e1, Rp.noL e d x n.1 h, RpL.noL e l r n.2 t⟩
end
end
def VwL (K : PySem.W.Frag) (σ : L2.St) (ρ : Rho) (F : Hp) : List D → List V → Prop
  | [], vs => vs = []
  | d :: ds, vs => ∃ v r, vs = v :: r ∧ Vw K σ ρ F d v ∧ VwL K σ ρ F ds r
theorem VwL.mono {K : PySem.W.Frag} {σ : L2.St} {ρ : Rho} {F F' : Hp} (e : Same F F') : ∀ {ds : List D} {vs : List V}, VwL K σ ρ F ds vs → VwL K σ ρ F' ds vs
  | [], _, h => h
  | _ :: _, _, ⟨v, r, e1, h, t⟩ => ⟨v, r, e1, h.mono e, VwL.mono e t⟩
theorem VwL.len {K : PySem.W.Frag} {σ : L2.St} {ρ : Rho} {F : Hp} : ∀ {ds : List D} {vs : List V}, VwL K σ ρ F ds vs → ds.length = vs.length
  | [], _, h => by rw [show _ = [] from h]; rfl
  | _ :: _, _, ⟨v, r, e1, h, t⟩ => by rw [e1, List.length_cons, List.length_cons, VwL.len t]
def realAO (K : PySem.W.Frag) (W : WX) (p : PTA) : TA := fun σ H Q => ∃ g ρ M F O q w, Ab K g σ H ρ M F O ∧ p w ρ M q ∧ WOk K g F W w ∧
  ∀ vs H' F' O' M' ds, Ab K g σ H' ρ M' F' O' → Same F F' → VwL K σ ρ F' ds vs → q ds M' → Q vs H'
theorem realAO.mk {K W p σ H Q} {g : Gh} {ρ : Rho} {M : Mm} {F : Hp} {O : Own} {q w} (A : Ab K g σ H ρ M F O) (h : p w ρ M q) (hw : WOk K g F W w) (k : ∀ vs H' F' O' M' ds, Ab K g σ H' ρ M' F' O' → Same F F' → VwL K σ ρ F' ds vs → q ds M' → Q vs H') : realAO K W p σ H Q := ⟨g, ρ, M, F, O, q, w, A, h, hw, k⟩
theorem realAO.el {K W p σ H Q} {C : Prop} (h : realAO K W p σ H Q) (f : ∀ g ρ M F O q w, Ab K g σ H ρ M F O → p w ρ M q → WOk K g F W w → (∀ vs H' F' O' M' ds, Ab K g σ H' ρ M' F' O' → Same F F' → VwL K σ ρ F' ds vs → q ds M' → Q vs H') → C) : C := by
  obtain ⟨g, ρ, M, F, O, q, w, A, a, b, c⟩ := h
  exact f g ρ M F O q w A a b c
section
variable {X : Cx} {W : WX} {e : Expr} {es : List Expr} {pe : PTE} {pl : PTA}
end
section
variable {K : PySem.W.Frag} {g : Gh} {σ : L2.St} {H F : Hp} {ρ : Rho} {M : Mm} {O : Own} {a b dx : Addr} {C : Addr}
end
section
variable {X : Cx} {W : WX} {k n : Nat} {f C : Addr} {fd : FuncData} {ps : List Str} {sp : PSp} {x : Str} {p pos : Pos} {e : Expr} {es : List Expr} {pl : PTA}
end
end Px
set_option Elab.async false
set_option linter.all false
set_option maxRecDepth 100000
namespace Px
open PySem PySem.Spec PyProof.Rows PySem.W PySem.Calls PySem.HandSPX
section
variable {M : Model} {A : Around} {E : Value → Shared → Prop} {h : Heap} {g : Array GenState} {d : Drawn} {t : Nat} {os : OsState}
variable {nm q : Str} {C N : Addr} {bs bm bmB : List Value} {hdct : Bool} {sn : List Str} {sub : List Value} {ab : Bool} {col : Option Bool} {dd : Option Addr} {k0 k1 k2 k3 k5 : Option Value} {B newId initId : String}
end
section
variable {prog : Program} {w : World} {A : Around} {E : Value → Shared → Prop} {R : Result → Shared → Prop} {h : Heap} {g : Array GenState} {d : Drawn} {t : Nat} {os : OsState}
variable {nm q : Str} {C N : Addr} {bs bm bmB : List Value} {hdct : Bool} {sn : List Str} {sub : List Value} {ab : Bool} {col : Option Bool} {dd : Option Addr} {k0 k1 k2 k3 k5 : Option Value} {B newId initId : String}
end
def KwI (K : Frag) (fI : Addr) (x : Str) : Prop := ∀ (oc : Value) (od : Option Addr) (fd : FuncData) (osl : Array (Option Value)), K.lookup fI = some ⟨oc, od, .func fd, osl⟩ → ∀ (s : Shared) (e u : Value), BindsTo s fd ⟨[e], [(x, u)]⟩ [("self", e), (x, u)]
section
variable {prog : Program} {w : World} {A : Around} {R : Result → Shared → Prop} {K : Frag} {C fI e t0 : Addr} {u : Value} {x f : Str} {mg mb : Str → Option Value} {s : Shared} {ag : Args}
end
section
open L2
variable {X : Cx} {p pos : Pos} {e : Expr} {te : TE}
end
end Px
namespace Px
open PySem PySem.Spec PyProof.Rows L2
structure ExkTxt (P : Program) (K : PySem.W.Frag) (mg : Str → Option Value) (x : Str) (C : Addr) (f px : Str) : Prop where
  g : mg x = some (.ref C)
  s : mg "super" = none
  o : L2.OexC K C
  i : ∃ fI : Addr, InitA P K C fI px f ∧ PySem.W.findIn K (.ref C) "__init__" = some (some (.ref fI)) ∧ PySem.W.typeIn K (.ref fI) = some (.type "function") ∧ KwI K fI px
section
variable {X : Cx} {W : WX} {k : Nat} {C : Addr} {x f px : Str} {p pos : Pos} {e : Expr} {pe : PTE} {pl : PTA} {kws : List Keyword}
end
end Px
set_option Elab.async false
set_option linter.all false
set_option maxRecDepth 100000
namespace Px
open PySem PySem.Spec PyProof.Rows L2
section
variable {X : Cx} {W : WX} {a b : Expr} {pa pb : PTE} {pos : Pos}
end
end Px
set_option Elab.async false
set_option linter.all false
set_option maxRecDepth 100000
namespace Px
open PySem PySem.Spec PyProof.Rows L2
section
variable {X : Cx} {W : WX} {a o e : Expr} {pa po pe : PTE} {p pos apos : Pos}
end
end Px
set_option Elab.async false
set_option linter.all false
set_option maxRecDepth 100000
namespace GQ
open PySem PySem.SeqAt
open AutoSeq1 (wpAny_loadPart')
open MeetsSeq MeetsSeq2 MeetsSeq3 SeqRoads2
section
variable {prog : Program} {w : World} {A : Around} {R : Result → Shared → Prop}
end
section
variable {prog : Program} {w : World} {A : Around} {E : Value → Shared → Prop} {s : Shared}
end
end GQ
namespace Px
open PySem PySem.Spec PyProof.Rows L2
section
variable {X : Cx} {W : WX} {k n : Nat} {f C : Addr} {fd : FuncData} {ps : List Str} {sp : PSp} {pos : Pos} {a b : Expr} {pa pb : PTE}
end
end Px
set_option Elab.async false
set_option linter.all false
set_option maxRecDepth 100000
namespace Px
open PySem PySem.Spec PyProof.Rows L2
section
variable {X : Cx} {W : WX} {a : Expr} {pa : PTE} {p pos : Pos}
end
end Px
set_option Elab.async false
set_option linter.all false
set_option maxRecDepth 100000
namespace Px
open PySem PySem.Spec PyProof.Rows L2
section
variable {X : Cx} {W : WX} {a b e : Expr} {pa pb pe : PTE} {pos p : Pos}
def dCnt : PTS := fun _ P ρ M => P.ct ρ M
theorem ds_continue : DS X W (.Continue pos) dCnt := ps_imp ps_continue fun D σ H hE => hE.el fun g ρ M F O P w A h hw k1 k2 k3 k4 _ => k4 σ H ρ M F O A (Same.refl F) h
end
end Px
set_option Elab.async false
set_option linter.all false
set_option maxRecDepth 100000
namespace Px
open PySem PySem.Spec PyProof.Rows L2
section
variable {X : Cx} {W : WX} {pa : PTE}
end
end Px
set_option Elab.async false
set_option linter.all false
set_option maxRecDepth 100000
namespace Px
open PySem PySem.Spec PyProof.Rows L2
def ActB (P : Program) (w : World) (K : PySem.W.Frag) (mg : Str → Option Value) (base : Heap) (j : Nat) (outer0 : List Env) (H0 : Hp) (h0 : Heap) (c : PC) (cl : D) : Prop :=
  ∀ (CXg : CXT) (Ng : List Str) (qg : Str) (sg : Scope) (g : Addr) (cdg : Value) (A1 : Around) (outer1 : List Env) (s1 : Shared) (H1 : Hp) (Eg : XK) (a : Str),
    Un (frs outer0) [] H0 H1 h0 s1.heap → (∀ b ∈ frs outer1, b ∈ frs outer0 ∨ h0.get? b = none) → Room (j + 1) (A1.deeper (envOfC qg sg s1.heap.objs.size g cdg)) → A1.guards = some [] →
    Ng[0]? = some a → Vis sg a → (a == ("__debug__" : Str)) = false → (a == ("__classdict__" : Str)) = false →
    actIn (cxOf CXg P w K mg base Ng qg sg g cdg A1 outer1 s1 H1 Eg) a c cl
section
variable (P : Program) (w : World) (K : PySem.W.Frag) (mg : Str → Option Value) (base : Heap)
structure FnB (j l : Nat) (f : Addr) (fd : FuncData) (a qual : Str) (stm : Stmt) (N : List Str) (TT : PC → PC) : Prop where
  run : ∀ (A : Around) (outer : List Env) (s : Shared) (H : Hp) (u : Value) (cl : D) (v : V) (c : PC) (Q : VK) (E : XK), Room (l + 1) A → A.guards = some [] → Env0 P w K mg base A outer s H → BindsTo s fd ⟨[u], []⟩ [(a, u)] → RelV v u →
    ActB P w K mg base j outer H s.heap c cl → toSpC K TT c cl v H Q E →
    codeAny (model P w) A (.call (.ref f) ⟨[u], []⟩) (CR (L2.CX P w) outer P w H s Q E) s
end
section
variable {P : Program} {w : World} {K : PySem.W.Frag} {mg : Str → Option Value} {base : Heap} {j l : Nat}
end
section
variable {P : Program} {w : World} {K : PySem.W.Frag} {mg : Str → Option Value} {base : Heap} {j l : Nat} {f : Addr} {fd : FuncData} {N : List Str}
end
section
variable {X : Cx} {W : WX} {k l : Nat} {g c P : Addr} {fd : FuncData} {a x qual qn : Str} {stm : Stmt} {N : List Str} {TT : PC → PC} {prm : Arguments} {bd : Expr} {scp : Scope} {lp p pos : Pos} {pb : PTE}
end
end Px
set_option Elab.async false
set_option linter.all false
set_option maxRecDepth 100000
namespace Px
open PySem PySem.Spec PyProof.Rows L2
structure DefAt (X : Cx) (k : Nat) (f : Addr) (sp : PSp) : Prop where
  ex : ∃ (fd : FuncData) (ps : List Str) (n : Nat), FnG X.prog X.w X.K X.mg X.base k f fd ps (toSp X.K n sp) ∧ ps.length = n ∧ (∀ ds M q e, sp ds M q e → ds.length = n) ∧ PySem.W.keepIn X.K (.ref f) = true ∧ Binds X.K fd ps []
section
variable {X : Cx} {W : WX} {k i : Nat} {x : Str} {p pos : Pos} {e : Expr} {es : List Expr} {pl : PTA} {f : Addr}
end
end Px
set_option Elab.async false
set_option linter.all false
set_option maxRecDepth 100000
namespace Px
open PySem PySem.Spec PyProof.Rows L2
section
variable {X : Cx} {pins : List (Addr × Obj)} {σ : L2.St} {H : Hp} {s : Shared} {d : Addr} {o : Obj}
end
section
variable {P : Program} {w : World} {K : PySem.W.Frag} {tg : Expr} {d : Addr} {o : Obj} {es : Array DictEntry} {ep : Nat}
end
section
variable {X : Cx} {W : WX} {tg e elt iter : Expr} {td : TE} {pos : Pos} {scope : Scope} {own : List (Str × Nat)}
end
end Px
set_option Elab.async false
set_option linter.all false
set_option maxRecDepth 100000
namespace Px
open PySem PySem.Spec PyProof.Rows L2
section
variable {X : Cx} {W : WX} {pos : Pos} {keys : List (Option Expr)} {values : List Expr} {trs : List (TE × TE)}
end
end Px
set_option Elab.async false
set_option linter.all false
set_option maxRecDepth 100000
namespace Px
open PySem PySem.Spec PyProof.Rows L2
section
variable {prog : Program} {w : World} {A : Around} {E : Value → Shared → Prop}
def Pr2 (h : Heap) (ta : Addr) (a b : Int) : Prop := ∃ t1 t2, PyProof.Rows.IsTup h ta #[.int a t1, .int b t2]
theorem Pr2.keep {h h' : Heap} {ta : Addr} {a b : Int} (p : Pr2 h ta a b) (k : ∀ b o, h.get? b = some o → h'.get? b = some o) : Pr2 h' ta a b := by
  obtain ⟨t1, t2, o, e1, e2⟩ := p
  exact ⟨t1, t2, o, k _ _ e1, e2⟩
end
structure LamS1 (sc scope : Scope) (x c : Str) : Prop where
  kind : scope.kind = .function
  co : scope.isCoroutine = false
  gen : scope.isGenerator = false
  own : ∀ y ∈ scope.names, y.2 ≠ .cell
  xl : scope.names.lookup x = some .local
  cf : scope.names.lookup c = some .free
  free : ∀ y ∈ scope.names, y.2 = .free → sc.names.lookup y.1 = some .cell ∨ sc.names.lookup y.1 = some .free
theorem LamS1.has {X : Cx} {scope : Scope} {x c : Str} (L : LamS1 X.env.scope scope x c) (ok : X.Ok) : ∀ y ∈ scope.names, y.2 = .free → ∃ c, X.env.cells.lookup y.1 = some c := fun y hy e => by
  rcases L.free y hy e with k | k
  · exact ok.has _ (.inl k)
  · exact ok.has _ (.inr k)
section
variable {X : Cx} {pins : List (Addr × Obj)} {σ : L2.St} {H : Hp} {s : Shared} {f c' : Addr} {pm ctv : Value} {prm : Arguments} {scp : Scope} {x c : Str} {k1 k2 ic : Nat} {p1 p2 p3 p4 p5 p6 p7 p8 p9 : Pos}
end
end Px
set_option Elab.async false
set_option linter.all false
set_option maxRecDepth 100000
namespace Px
open PySem PySem.Spec PyProof.Rows L2
section
variable {X : Cx} {W : WX} {y : Str} {p1 p2 p3 pos : Pos}
end
end Px
set_option Elab.async false
set_option linter.all false
set_option maxRecDepth 100000
namespace Px
open PySem PySem.Spec PyProof.Rows L2
section
variable {X : Cx} {W : WX} {c P L : Addr} {qn x cn y : Str} {prm : Arguments} {scp : Scope} {k1 k2 i ic : Nat} {lp pos p1 p2 p3 p4 p5 p6 p7 p8 p9 q1 q2 q3 q4 q5 : Pos}
end
end Px
set_option Elab.async false
set_option linter.all false
set_option maxRecDepth 100000
namespace Px
open PySem PySem.Spec PyProof.Rows L2
section
variable {X : Cx} {W : WX} {c e : Expr} {pt : PTT} {pl : PTA} {pos : Pos}
end
end Px
set_option Elab.async false
set_option linter.all false
set_option maxRecDepth 100000
namespace Px
open PySem PySem.Spec PyProof.Rows L2
section
variable {K : PySem.W.Frag} {g : Gh} {σ : L2.St} {H : Hp} {ρ : Rho} {M : Mm} {F : Hp} {O : Own} {p : Addr} {mo : Mo}
end
section
variable {X : Cx} {W : WX} {a b e i : Expr} {pa pb pe : PTE} {pl : PTA} {pos p : Pos}
end
end Px
set_option Elab.async false
set_option linter.all false
set_option maxRecDepth 100000
namespace Px
open PySem PySem.Spec PyProof.Rows L2
section
variable {X : Cx} {W : WX} {pa : PTE} {pl : PTA}
end
section
variable {X : Cx} {pins : List (Addr × Obj)} {σ : L2.St} {H F : Hp} {s : Shared}
end
section
variable {X : Cx} {W : WX} {a : Expr} {pa : PTE} {p pos : Pos}
end
end Px
set_option Elab.async false
set_option linter.all false
set_option maxRecDepth 100000
namespace Px
open PySem PySem.Spec PyProof.Rows L2
def keyD : D → Option Key
  | .int i => some (.inl i)
  | .str s => some (.inr s)
  | _ => none
def getDK (kvs : List (Key × D)) (k : Key) : Option D := (kvs.find? fun kv => decide (kv.1 = k)).map (·.2)
def putDK (kvs : List (Key × D)) (k : Key) (d : D) : List (Key × D) :=
  if (kvs.any fun kv => decide (kv.1 = k)) = true then kvs.map (fun kv => if kv.1 = k then (kv.1, d) else kv) else kvs ++ [(k, d)]
theorem getDK_pos {p : Key × D} {r : List (Key × D)} {k : Key} (e : p.1 = k) : getDK (p :: r) k = some p.2 := by simp [getDK, List.find?_cons, e]
theorem getDK_neg {p : Key × D} {r : List (Key × D)} {k : Key} (e : ¬ p.1 = k) : getDK (p :: r) k = getDK r k := by simp [getDK, List.find?_cons, e]
theorem any_DK (k : Key) : ∀ kvs : List (Key × D), (kvs.any fun kv => decide (kv.1 = k)) = (getDK kvs k).isSome
  | [] => rfl
  | p :: r => by
    rw [List.any_cons]
    by_cases e : p.1 = k
    · rw [getDK_pos e, decide_eq_true e]; rfl
    · rw [getDK_neg e, decide_eq_false e, Bool.false_or]; exact any_DK k r
section
variable {K : PySem.W.Frag} {F : Hp}
theorem getDK_rel {k : Key} : ∀ {kvs : List (Key × D)} {ys : List (Key × V)}, ys.map (·.1) = kvs.map (·.1) → RpL K F (kvs.map (·.2)) (ys.map (·.2)) → match getDK kvs k with
    | some d => ∃ v, valV ys k = some v ∧ Rp K F d v
    | none => valV ys k = none
  | [], [], _, _ => rfl
  | [], _ :: _, e, _ => by cases e
  | _ :: _, [], e, _ => by cases e
  | (n, x) :: r, (m, y) :: ys, e, rl => by
    injection e with e1 e2
    have e1 : m = n := e1
    subst e1
    obtain ⟨v', vr, e3, r1, r2⟩ := rl
    injection e3 with e4 e5
    subst e4
    subst e5
    by_cases c : m = k
    · rw [getDK_pos (p := (m, x)) c]
      exact ⟨y, valV_pos c, r1⟩
    · rw [getDK_neg (p := (m, x)) c, valV_neg (p := (m, y)) c]
      exact getDK_rel e2 r2
theorem mapDK_rel {k : Key} {d : D} {v : V} (hv : Rp K F d v) : ∀ {kvs : List (Key × D)} {ys : List (Key × V)}, ys.map (·.1) = kvs.map (·.1) → RpL K F (kvs.map (·.2)) (ys.map (·.2)) →
    (ys.map fun kv => if kv.1 = k then (kv.1, v) else kv).map (·.1) = (kvs.map fun kv => if kv.1 = k then (kv.1, d) else kv).map (·.1) ∧ RpL K F ((kvs.map fun kv => if kv.1 = k then (kv.1, d) else kv).map (·.2)) ((ys.map fun kv => if kv.1 = k then (kv.1, v) else kv).map (·.2))
  | [], [], _, _ => ⟨rfl, rfl⟩
  | [], _ :: _, e, _ => by cases e
  | _ :: _, [], e, _ => by cases e
  | (n, x) :: r, (m, y) :: ys, e, rl => by
    injection e with e1 e2
    have e1 : m = n := e1
    subst e1
    obtain ⟨v', vr, e3, r1, r2⟩ := rl
    injection e3 with e4 e5
    subst e4
    subst e5
    obtain ⟨i1, i2⟩ := mapDK_rel (k := k) hv e2 r2
    by_cases c : m = k
    · simp only [List.map_cons, if_pos c]
      exact ⟨by rw [List.cons.injEq]; exact ⟨rfl, i1⟩, v, _, rfl, hv, i2⟩
    · simp only [List.map_cons, if_neg c]
      exact ⟨by rw [List.cons.injEq]; exact ⟨rfl, i1⟩, y, _, rfl, r1, i2⟩
theorem RpL.appOne {d : D} {v : V} (hv : Rp K F d v) : ∀ {ds : List D} {xs : List V}, RpL K F ds xs → RpL K F (ds ++ [d]) (xs ++ [v])
  | [], xs, h => by rw [show xs = [] from h]; exact ⟨v, [], rfl, hv, rfl⟩
  | _ :: _, _, ⟨x, r, e, h1, h2⟩ => by rw [e]; exact ⟨x, _, rfl, h1, RpL.appOne hv h2⟩
theorem putDK_rel {k : Key} {d : D} {v : V} (hv : Rp K F d v) {kvs : List (Key × D)} {ys : List (Key × V)} (e : ys.map (·.1) = kvs.map (·.1)) (r : RpL K F (kvs.map (·.2)) (ys.map (·.2))) :
    (putK ys k v).map (·.1) = (putDK kvs k d).map (·.1) ∧ RpL K F ((putDK kvs k d).map (·.2)) ((putK ys k v).map (·.2)) := by
  have h := getDK_rel (k := k) e r
  unfold putDK putK
  rw [any_DK, valV_any]
  cases c : getDK kvs k with
  | some x =>
    rw [c] at h
    obtain ⟨u, hu, _⟩ := h
    rw [hu, if_pos (show (some u).isSome = true from rfl), if_pos (show (some x).isSome = true from rfl)]
    exact mapDK_rel hv e r
  | none =>
    rw [c] at h
    rw [show valV ys k = none from h, if_neg (by simp), if_neg (by simp), List.map_append, List.map_append, List.map_append, List.map_append, e]
    exact ⟨rfl, RpL.appOne hv r⟩
theorem keyD_is {d : D} {k : Key} {v : V} (h : keyD d = some k) (r : Rp K F d v) : v = kV k := by
  cases d with
  | int i => cases h; exact r
  | str s => cases h; exact r
  | _ => cases h
end
def asDk (d : D) (M : Mm) (f : Addr → List (Key × D) → Prop) : Prop := match d with
  | .raw (.ref a) => match M a with | some (.dik l) => f a l | _ => False
  | _ => False
theorem asDk_of {d : D} {M : Mm} {f : Addr → List (Key × D) → Prop} (h : asDk d M f) : ∃ a l, d = .raw (.ref a) ∧ M a = some (.dik l) ∧ f a l := by
  unfold asDk at h
  split at h
  · rename_i a
    split at h
    · rename_i l e
      exact ⟨a, l, rfl, e, h⟩
    · exact h.elim
  · exact h.elim
section
variable {X : Cx}
def rInK (neg : Bool) : V → V → Hp → VK → Prop := fun y x H Q => ∃ a kvs k, x = .ref a ∧ H a = some (.dK kvs) ∧ y = kV k ∧ Q (.bl (if neg then !(valV kvs k).isSome else (valV kvs k).isSome)) H
theorem op_notInK (hu : X.A.units + 9 < cLine) : OpR X (compareOp .NotIn) (rInK true) := by
  intro pins s σ H x y v u Q I rx ry h
  obtain ⟨a, kvs, k, rfl, e, rfl, q⟩ := h
  obtain rfl : u = Value.ref a := ry
  exact d_notIn (by omega) I (DGet.k e) rx fun s' I' => ⟨.bl _, H, I', rfl, q⟩
def sSetK : TSet := fun o i v H Q => ∃ a H4, o = .ref a ∧ DPut H a i v H4 ∧ Q H4
theorem set_K (hu : X.A.units + 9 < cLine) : PSet X sSetK := by
  intro pins s σ H o i v ov iv u Q I ro ri rv h
  obtain ⟨a, H4, rfl, g, q⟩ := h
  obtain rfl : ov = Value.ref a := ro
  exact d_setItem (by omega) I g ri rv fun s' I' => ⟨H4, I', q⟩
end
section
variable {X : Cx} {W : WX} {a b c e i : Expr} {pa pb pc pe : PTE} {pos p : Pos}
def dNewDk : PTE := fun w ρ M q => ∀ a, M a = none → q (.raw (.ref a)) (updM M a (.dik []))
theorem de_newDk : DE X W (.Dict [] [] pos) dNewDk := pe_imp pe_dnewK fun σ H Q hE => hE.el fun g ρ M F O q w A p hw k => fun c hc =>
  k (.ref c) _ F _ _ (.raw (.ref c)) (A.newMo (o := .dK []) (mo := .dik []) hc ⟨[], upd_same, if_pos rfl, rfl, rfl⟩) (Same.refl F) rfl (p c (A.m0 hc))
def dGetDk (pa pb : PTE) : PTE := fun w ρ M q => pa w ρ M fun x M1 => pb w ρ M1 fun y M2 => asDk x M2 fun _ l => ∃ k d, keyD y = some k ∧ getDK l k = some d ∧ q d M2
theorem de_getDk (hu : X.A.units + 9 < cLine) (ha : DE X W a pa) (hb : DE X W i pb) (hs : NoSl i := by exact fun _ _ => rfl) : DE X W (.Subscript a i pos) (dGetDk pa pb) := pe_imp (pe_dget (show X.A.units + 1 < cLine by omega) ha hb hs) fun σ H Q hE => hE.el fun g ρ M F O q w A h hw k =>
  (.mk A h hw (fun v H1 F1 O1 M1 x A1 s1 r1 q1 => ⟨g, ρ, M1, F1, O1, _, w, A1, q1, hw.mono s1, fun u H2 F2 O2 M2 y A2 s2 r2 q2 => by
    obtain ⟨c, l, rfl, hM, kk, d, hk, hd, q3⟩ := asDk_of q2
    obtain ⟨ys, e1, e2, e3, e4⟩ := A2.mu c _ hM
    have hg := getDK_rel (k := kk) e3 e4
    rw [hd] at hg
    obtain ⟨z, hz, rz⟩ := hg
    refine ⟨c, z, r1, ?_, k z H2 F2 O2 M2 d A2 (s1.trans s2) rz q3⟩
    rw [keyD_is hk r2, ← hz]
    exact DGet.k e1⟩))
def dInDk (neg : Bool) (pa pb : PTE) : PTE := fun w ρ M q => pa w ρ M fun x M1 => pb w ρ M1 fun y M2 => asDk y M2 fun _ l => ∃ k, keyD x = some k ∧ q (.bl (if neg then !(getDK l k).isSome else (getDK l k).isSome)) M2
theorem inDk_run {neg : Bool} {σ : L2.St} {H : Hp} {Q : VK} (h : real X.K W (dInDk neg pa pb) σ H Q) : tOp (rInK neg) (real X.K W pa) (real X.K W pb) σ H Q := by
  obtain ⟨g, ρ, M, F, O, q, w, A, p, hw, k⟩ := h
  refine (.mk A p hw (fun v H1 F1 O1 M1 d A1 s1 r1 q1 => (.mk A1 q1 (hw.mono s1) (fun u H2 F2 O2 M2 y A2 s2 r2 q2 => ?_))))
  obtain ⟨c, l, rfl, hM, kk, hk, q3⟩ := asDk_of q2
  obtain ⟨ys, e1, e2, e3, e4⟩ := A2.mu c _ hM
  have hg := getDK_rel (k := kk) e3 e4
  have es : (valV ys kk).isSome = (getDK l kk).isSome := by
    cases e : getDK l kk with
    | none => rw [e] at hg; rw [show valV ys kk = none from hg]; rfl
    | some d => rw [e] at hg; obtain ⟨z, hz, _⟩ := hg; rw [hz]; rfl
  refine ⟨c, ys, kk, r2, e1, keyD_is hk (Rp.mono s2 _ _ r1), ?_⟩
  rw [es]
  exact k _ H2 F2 O2 M2 (.bl (if neg then !(getDK l kk).isSome else (getDK l kk).isSome)) A2 (s1.trans s2) rfl q3
theorem dt_notinDk (hu : X.A.units + 9 < cLine) (ha : DE X W a pa) (hb : DE X W b pb) (hm : behindInMarks .NotIn b = false := by rfl) : DT X W (.Compare a [.NotIn] [b] pos) (dTst (dInDk true pa pb)) :=
  pt_imp (pt_cmpR (op_notInK hu) ha hb hm) fun σ H Q h => tst_run (t := tOp (rInK true) (real X.K W pa) (real X.K W pb)) (fun _ _ _ h => inDk_run h) h
def putAt (po pk : PTE) (v : D) (w : PWi) (ρ : Rho) (M : Mm) (q : Mm → Prop) : Prop := po w ρ M fun y M1 => pk w ρ M1 fun x M2 => asDk y M2 fun c l => ∃ k, keyD x = some k ∧ l.length < 1000 ∧ q (updM M2 c (.dik (putDK l k v)))
theorem put_run {K : PySem.W.Frag} {g : Gh} {σ : L2.St} {H : Hp} {ρ : Rho} {M : Mm} {F : Hp} {O : Own} {c : Addr} {l : List (Key × D)} {k : Key} {d : D} {v : V} (A : Ab K g σ H ρ M F O) (hM : M c = some (.dik l)) (rv : Rp K F d v) (hl : l.length < 1000) :
    ∃ H4, DPut H c (kV k) v H4 ∧ Ab K g σ H4 ρ (updM M c (.dik (putDK l k d))) F O := by
  obtain ⟨ys, e1, e2, e3, e4⟩ := A.mu c _ hM
  have hlen : ys.length = l.length := by
    have := congrArg List.length e3
    rw [List.length_map, List.length_map] at this
    exact this
  obtain ⟨i1, i2⟩ := putDK_rel (k := k) rv e3 e4
  exact ⟨_, DPut.k e1 (by rw [hlen]; exact Nat.lt_of_lt_of_le hl (by decide)), A.setMo (o := .dK (putK ys k v)) (mo' := .dik (putDK l k d)) hM e2 ⟨_, upd_same, e2, i1, i2⟩⟩
theorem sub_run {K : PySem.W.Frag} {g : Gh} {σ : L2.St} {H : Hp} {ρ : Rho} {M : Mm} {F : Hp} {O : Own} {w : PWi} {W : WX} {po pk : PTE} {d : D} {v : V} {q : Mm → Prop} {Q : L2.St → Hp → Prop} (A : Ab K g σ H ρ M F O) (hw : WOk K g F W w) (rv : Rp K F d v) (h : putAt po pk d w ρ M q)
    (kk : ∀ H4 F4 O4 M4, Ab K g σ H4 ρ M4 F4 O4 → Same F F4 → q M4 → Q σ H4) : gSub (real K W po) (real K W pk) sSetK v σ H Q := by
  refine (.mk A h hw (fun o H1 F1 O1 M1 y A1 s1 r1 q1 => (.mk A1 q1 (hw.mono s1) (fun i H2 F2 O2 M2 x A2 s2 r2 q2 => ?_))))
  obtain ⟨c, l, rfl, hM, k, hk, hl, q3⟩ := asDk_of q2
  obtain ⟨H4, g4, A4⟩ := put_run (k := k) A2 hM (Rp.mono (s1.trans s2) _ _ rv) hl
  refine ⟨c, H4, r1, ?_, kk H4 F2 O2 _ A4 (s1.trans s2) q3⟩
  rw [keyD_is hk r2]
  exact g4
def dPutDk (pv po pk : PTE) : PTS := fun w P ρ M => pv w ρ M fun v M1 => putAt po pk v w ρ M1 fun M2 => P.nx ρ M2
abbrev AsgIs (X : Cx) (b a : Expr) (pt : Pos) : Prop := ∀ v, assign (.Subscript b a pt) X.env v = (do
      let ov ← holding [v] (eval b X.env)
      let iv ← holding [v, ov] (eval a X.env)
      standAt pt
      holding [v, ov, iv] (setItem ov iv v)
      release [v, ov, iv] [])
theorem ds_putDk {pt : Pos} (hu : X.A.units + 9 < cLine) (he : DE X W e pe) (hb : DE X W b pb) (ha : DE X W a pa) (hs : swapsWithSole [.Subscript b a pt] e pos.line X.env = pure false := by rfl) (hw : swappedStores [.Subscript b a pt] e X.env = pure none := by rfl)
    (hA : AsgIs X b a pt := by intro _; rfl) : DS X W (.Assign [.Subscript b a pt] e pos) (dPutDk pe pb pa) :=
  ps_imp (ps_asg he (pg_sub hb ha (set_K hu) hA) hs hw) fun D σ H ⟨g, ρ, M, F, O, P, w, A, h, hw, k1, k2, k3, k4⟩ =>
    (.mk A h hw (fun v H1 F1 O1 M1 dv A1 s1 r1 q1 => sub_run A1 (hw.mono s1) r1 q1 fun H4 F4 O4 M4 A4 s4 q4 => k1 σ _ ρ _ F4 O4 A4 (s1.trans s4) q4))
end
end Px
set_option Elab.async false
set_option linter.all false
set_option maxRecDepth 100000
namespace PySem
open Sem (wp)
section
variable {prog : Program} {w : World} {K : Type} [DecidableEq K] {knd : KeyKind prog w K} {A : Around} {E : Value → Shared → Prop} {s : Shared}
end
end PySem
set_option Elab.async false
set_option linter.all false
set_option maxRecDepth 100000
namespace PySem
open Sem (wp)
section
variable {prog : Program} {w : World} {A : Around} {E : Value → Shared → Prop} {s : Shared}
end
end PySem
namespace Px
open PySem PySem.Spec PyProof.Rows L2
end Px
set_option Elab.async false
set_option linter.all false
set_option maxRecDepth 100000
namespace Px
open PySem PySem.Spec PyProof.Rows L2
section
variable {X : Cx} {W : WX} {a b c e : Expr} {pa pb pc : PTE} {pos p apos cpos : Pos}
end
end Px
set_option Elab.async false
set_option linter.all false
set_option maxRecDepth 100000
namespace Px
open PySem PySem.Spec PyProof.Rows L2
def compR2 (gd : PTG) (tt : PTT) (pl1 : PTA) (gd1 : PTG) (tt1 : PTT) (te : PTE) (vs1 : List Nat) (ρ : Rho) : List D → List D → Mm → (List D → Mm → Prop) → Prop
  | [], acc, M, q => q acc M
  | x :: r, acc, M, q => gd x ρ fun ρ' => tt w0 ρ' M fun b M1 => if b = true then pl1 w0 ρ' M1 fun ds1 M2 => compR gd1 tt1 te (uns ρ' vs1) ds1 acc M2 fun acc' M3 => compR2 gd tt pl1 gd1 tt1 te vs1 ρ r acc' M3 q else compR2 gd tt pl1 gd1 tt1 te vs1 ρ r acc M1 q
def dComp2 (vs vs1 : List Nat) (pl : PTA) (gd : PTG) (tt : PTT) (pl1 : PTA) (gd1 : PTG) (tt1 : PTT) (te : PTE) : PTA := fun w ρ M q => okW ρ vs = true ∧ pl w ρ M fun ds M1 => compR2 gd tt pl1 gd1 tt1 te vs1 (uns ρ vs) ds [] M1 q
section
variable {X : Cx} {W : WX} {elt tg iter tg1 iter1 : Expr} {ifs ifs1 : List Expr} {scope : Scope} {own : List (Str × Nat)} {pos : Pos} {pl pl1 : PTA} {gd gd1 : PTG} {tt tt1 : PTT} {te : PTE} {is is1 vs vs1 : List Nat}
theorem compR2_at {ρ : Rho} {ds acc : List D} {M : Mm} {q : List D → Mm → Prop} {i : Nat} {d : D} (h : ds[i]? = some d) (k : compR2 gd tt pl1 gd1 tt1 te vs1 ρ (ds.drop i) acc M q) :
    gd d ρ fun ρ' => tt w0 ρ' M fun b M1 => if b = true then pl1 w0 ρ' M1 fun ds1 M2 => compR gd1 tt1 te (uns ρ' vs1) ds1 acc M2 fun acc' M3 => compR2 gd tt pl1 gd1 tt1 te vs1 ρ (ds.drop (i + 1)) acc' M3 q else compR2 gd tt pl1 gd1 tt1 te vs1 ρ (ds.drop (i + 1)) acc M1 q := by
  obtain ⟨hi, e⟩ := List.getElem?_eq_some_iff.mp h
  rw [List.drop_eq_getElem_cons hi, e] at k
  exact k
theorem comp2_run {K : PySem.W.Frag} (hsub : ∀ j ∈ is, j ∈ vs) (hv : ∀ j ∈ vs1, j ∈ vs) (hsub1 : ∀ j ∈ is1, j ∈ vs1) {σ : L2.St} {H : Hp} {Q : VK} (h : realL K W (dComp2 vs vs1 pl gd tt pl1 gd1 tt1 te) σ H Q) :
    tLc2 (realI K W pl) (realG K is gd) (realT K W0 tt) (realI K W0 pl1) (realG K is1 gd1) (realT K W0 tt1) (real K W0 te) vs vs1 σ H Q := by
  obtain ⟨g, ρ, M, F, O, q, w, A, ⟨hW, pr⟩, hw, k⟩ := h
  refine (.mk A pr hw (fun J H1 F1 O1 M1 ds A1 s1 wk q1 => fun D0 hD => ?_))
  have nd : ∀ p ∈ g.tmp, p.1 ≠ D0 := fun p hp z => by
    obtain ⟨xs, e1, _⟩ := A1.tm p.1 p.2 hp
    rw [z, hD] at e1; cases e1
  have A2 := ((A1.laid (o := .lst []) hD).tmpNew (l := []) upd_same rfl (A1.f0 hD) (A1.o0 hD) (A1.g0 hD)).wiped vs
  refine ⟨fun i m H' => ∃ M' F' O' acc, Ab K { g with tmp := (D0, acc) :: g.tmp } (wipe σ vs) H' (uns ρ vs) M' F' O' ∧ Same F1 F' ∧ i ≤ ds.length ∧ m = ds.length - i ∧ compR2 gd tt pl1 gd1 tt1 te vs1 (uns ρ vs) (ds.drop i) acc M' q,
    ⟨ds.length, M1, F1, _, [], A2, Same.refl F1, Nat.zero_le _, rfl, q1⟩, ?_⟩
  rintro i m H2 ⟨M2, F2, O2, acc, A3, s3, hi2, rfl, q2⟩
  by_cases hlt : i < ds.length
  · refine .inr ⟨wk.go _ _ _ _ _ _ _ i A3 s3 hlt, fun H' => ∃ M' F' O' acc, Ab K { g with tmp := (D0, acc) :: g.tmp } (wipe σ vs) H' (uns ρ vs) M' F' O' ∧ Same F1 F' ∧ compR2 gd tt pl1 gd1 tt1 te vs1 (uns ρ vs) (ds.drop (i + 1)) acc M' q, ?_, ?_⟩
    · rintro H' ⟨M', F', O', acc', A', s', q'⟩
      exact ⟨ds.length - (i + 1), by omega, M', F', O', acc', A', s', hlt, rfl, q'⟩
    · intro x H3 y3
      have hd := List.getElem?_eq_getElem hlt
      obtain ⟨F3, A4, s4, r4⟩ := wk.yl _ _ _ _ _ _ _ i x H3 _ A3 s3 y3 hd
      have q3 := compR2_at hd q2
      refine ⟨_, uns ρ vs, M2, F3, O2, _, _, A4, r4, q3, fun σ5 ρ5 A5 n5 l5 q5 => ?_⟩
      have ew : wipe σ5 vs = wipe σ vs := wipe_eq (by rw [l5, wipe_length]) fun j hj => (n5 j fun z => hj (hsub j z)).1
      have hl5 : ρ5.length = ρ.length := by rw [A5.len, l5, wipe_length, ← A1.len]
      have back : ∀ {H' : Hp} {M' : Mm} {F' : Hp} {O' : Own} {acc' : List D}, Ab K { g with tmp := (D0, acc') :: g.tmp } σ5 H' ρ5 M' F' O' → Ab K { g with tmp := (D0, acc') :: g.tmp } (wipe σ vs) H' (uns ρ vs) M' F' O' := fun {H' M' F' O' acc'} Z => by
        have Z2 := Z.wiped vs
        rw [ew] at Z2
        refine Z2.congr (by rw [uns_len, uns_len, hl5]) fun j => ?_
        by_cases hj : j ∈ vs
        · rw [gt_uns.2 hj, gt_uns.2 hj]
        · rw [gt_uns.1 hj, gt_uns.1 hj]
          have z := (n5 j fun z => hj (hsub j z)).2
          rw [gt_uns.1 hj] at z
          exact z.symm
      refine ⟨ew, _, ρ5, M2, F3, O2, _, w0, A5, q5, fun _ _ _ _ _ _ _ _ _ _ _ _ z => z, fun b H6 F6 O6 M6 A6 s6 q6 => ?_⟩
      cases b with
      | false =>
        rw [if_neg Bool.false_ne_true] at q6 ⊢
        exact ⟨M6, F6, O6, acc, back A6, (s3.trans s4).trans s6, q6⟩
      | true =>
        rw [if_pos rfl] at q6 ⊢
        refine ⟨_, ρ5, M6, F6, O6, _, w0, A6, q6, fun _ _ _ _ _ _ _ _ _ _ _ _ z => z, fun J1 H7 F7 O7 M7 ds1 A7 s7 wk1 q7 => ?_⟩
        have s17 : Same F1 F7 := ((s3.trans s4).trans s6).trans s7
        have back2 : ∀ {H' : Hp} {M' : Mm} {F' : Hp} {O' : Own} {acc' : List D}, Ab K { g with tmp := (D0, acc') :: g.tmp } (wipe σ5 vs1) H' (uns ρ5 vs1) M' F' O' → Ab K { g with tmp := (D0, acc') :: g.tmp } (wipe σ vs) H' (uns ρ vs) M' F' O' := fun {H' M' F' O' acc'} Z => by
          have Z2 := Z.wiped vs
          have e2 : wipe (wipe σ5 vs1) vs = wipe σ vs := by
            rw [← ew]
            exact wipe_eq (wipe_length _ _) fun j hj => (wipe_out fun z => hj (hv j z)).trans (wipe_out hj).symm
          rw [e2] at Z2
          refine Z2.congr (by rw [uns_len, uns_len, uns_len, hl5]) fun j => ?_
          by_cases hj : j ∈ vs
          · rw [gt_uns.2 hj, gt_uns.2 hj]
          · rw [gt_uns.1 hj, gt_uns.1 hj, gt_uns.1 (fun z => hj (hv j z))]
            have z := (n5 j fun z => hj (hsub j z)).2
            rw [gt_uns.1 hj] at z
            exact z.symm
        refine ⟨fun j k H' => ∃ M' F' O' acc', Ab K { g with tmp := (D0, acc') :: g.tmp } (wipe σ5 vs1) H' (uns ρ5 vs1) M' F' O' ∧ Same F7 F' ∧ j ≤ ds1.length ∧ k = ds1.length - j ∧ compR gd1 tt1 te (uns ρ5 vs1) (ds1.drop j) acc' M' fun acc'' M'' => compR2 gd tt pl1 gd1 tt1 te vs1 (uns ρ vs) (ds.drop (i + 1)) acc'' M'' q,
          ⟨ds1.length, M7, F7, _, acc, A7.wiped vs1, Same.refl F7, Nat.zero_le _, rfl, q7⟩, ?_⟩
        rintro j kk H8 ⟨M8, F8, O8, acc8, A8, s8, hj8, rfl, q8⟩
        by_cases hlt1 : j < ds1.length
        · refine .inr ⟨wk1.go _ _ _ _ _ _ _ j A8 s8 hlt1, fun H' => ∃ M' F' O' acc', Ab K { g with tmp := (D0, acc') :: g.tmp } (wipe σ5 vs1) H' (uns ρ5 vs1) M' F' O' ∧ Same F7 F' ∧ compR gd1 tt1 te (uns ρ5 vs1) (ds1.drop (j + 1)) acc' M' fun acc'' M'' => compR2 gd tt pl1 gd1 tt1 te vs1 (uns ρ vs) (ds.drop (i + 1)) acc'' M'' q, ?_, ?_⟩
          · rintro H' ⟨M', F', O', acc', A', s', q'⟩
            exact ⟨ds1.length - (j + 1), by omega, M', F', O', acc', A', s', hlt1, rfl, q'⟩
          · intro x1 H9 y9
            have hd1 := List.getElem?_eq_getElem hlt1
            obtain ⟨F9, A9, s9, r9⟩ := wk1.yl _ _ _ _ _ _ _ j x1 H9 _ A8 s8 y9 hd1
            have q9 := compR_at hd1 q8
            refine ⟨_, uns ρ5 vs1, M8, F9, O8, _, _, A9, r9, q9, fun σa ρa Aa na la qa => ?_⟩
            have ea : wipe σa vs1 = wipe σ5 vs1 := wipe_eq (by rw [la, wipe_length]) fun j hj => (na j fun z => hj (hsub1 j z)).1
            have hla : ρa.length = ρ5.length := by rw [Aa.len, la, wipe_length, ← A5.len]
            have back1 : ∀ {H' : Hp} {M' : Mm} {F' : Hp} {O' : Own} {acc' : List D}, Ab K { g with tmp := (D0, acc') :: g.tmp } σa H' ρa M' F' O' → Ab K { g with tmp := (D0, acc') :: g.tmp } (wipe σ5 vs1) H' (uns ρ5 vs1) M' F' O' := fun {H' M' F' O' acc'} Z => by
              have Z2 := Z.wiped vs1
              rw [ea] at Z2
              refine Z2.congr (by rw [uns_len, uns_len, hla]) fun j => ?_
              by_cases hj : j ∈ vs1
              · rw [gt_uns.2 hj, gt_uns.2 hj]
              · rw [gt_uns.1 hj, gt_uns.1 hj]
                have z := (na j fun z => hj (hsub1 j z)).2
                rw [gt_uns.1 hj] at z
                exact z.symm
            refine ⟨ea, _, ρa, M8, F9, O8, _, w0, Aa, qa, fun _ _ _ _ _ _ _ _ _ _ _ _ z => z, fun b1 Hb Fb Ob Mb Ab1 sb qb => ?_⟩
            cases b1 with
            | false =>
              rw [if_neg Bool.false_ne_true] at qb ⊢
              exact ⟨Mb, Fb, Ob, acc8, back1 Ab1, (s8.trans s9).trans sb, qb⟩
            | true =>
              rw [if_pos rfl] at qb ⊢
              refine ⟨_, ρa, Mb, Fb, Ob, _, w0, Ab1, qb, fun _ _ _ _ _ _ _ _ _ _ _ _ z => z, fun v Hc Fc Oc Mc d Ac sc rc ⟨zc, qc⟩ => ?_⟩
              obtain ⟨xs, h1, h2, _⟩ := Ac.tm D0 acc8 List.mem_cons_self
              exact ⟨xs, h1, by rw [← h2.len]; exact line_lt zc, Mc, Fc, Oc, _, back1 (Ac.grow nd (h2.app (show RpL K Fc [d] [v] from ⟨v, [], rfl, rc, rfl⟩))), ((s8.trans s9).trans sb).trans sc, qc⟩
        · have e : j = ds1.length := by omega
          subst e
          rw [List.drop_length] at q8
          exact .inl ⟨wk1.sp _ _ _ _ _ _ _ A8 s8, M8, F8, O8, acc8, back2 A8, s17.trans s8, q8⟩
  · have e : i = ds.length := by omega
    subst e
    rw [List.drop_length] at q2
    refine .inl ⟨wk.sp _ _ _ _ _ _ _ A3 s3, ?_⟩
    have A4 := A3.unwiped A1 s3 hW
    obtain ⟨xs, O4, A5, h1, h2, h3, h4, h5⟩ := A4.made nd
    exact k D0 xs H2 F2 O4 M2 acc A5 (s1.trans s3) h1 h2 h3 h4 h5 q2
theorem dl_comp2 (vs1 : List Nat) (hc : X.calm = true) (hN : X.N.Nodup) (hi : DI X W tg iter pl) (ok : BlkOk X.N X.env.scope scope own)
    (hg : ∀ (s : Shared) (H : Hp) (C : Addr) (cl : List (Str × Addr)) (fp : List Addr), DG (X.blk s H scope (compEnvC scope cl C X.env) fp) tg is gd)
    (ht : ∀ (s : Shared) (H : Hp) (C : Addr) (cl : List (Str × Addr)) (fp : List Addr), DTs (X.blk s H scope (compEnvC scope cl C X.env) fp) W0 ifs tt)
    (hi1 : ∀ (s : Shared) (H : Hp) (C : Addr) (cl : List (Str × Addr)) (fp : List Addr), DI (X.blk s H scope (compEnvC scope cl C X.env) fp) W0 tg1 iter1 pl1)
    (hg1 : ∀ (s : Shared) (H : Hp) (C : Addr) (cl : List (Str × Addr)) (fp : List Addr), DG (X.blk s H scope (compEnvC scope cl C X.env) fp) tg1 is1 gd1)
    (ht1 : ∀ (s : Shared) (H : Hp) (C : Addr) (cl : List (Str × Addr)) (fp : List Addr), DTs (X.blk s H scope (compEnvC scope cl C X.env) fp) W0 ifs1 tt1)
    (he : ∀ (s : Shared) (H : Hp) (C : Addr) (cl : List (Str × Addr)) (fp : List Addr), DE (X.blk s H scope (compEnvC scope cl C X.env) fp) W0 elt te) (hsub : ∀ j ∈ is, j ∈ own.map (·.2) := by decide) (hv : ∀ j ∈ vs1, j ∈ own.map (·.2) := by decide) (hsub1 : ∀ j ∈ is1, j ∈ vs1 := by decide)
    (hs : ∀ x, foldedSetIterable iter X.env x = pure x := by intro _; rfl) (hs1 : ∀ env x, foldedSetIterable iter1 env x = pure x := by intro _ _; rfl) : DL X W (.ListComp elt [⟨tg, iter, ifs, 0⟩, ⟨tg1, iter1, ifs1, 0⟩] scope pos) (dComp2 (own.map (·.2)) vs1 pl gd tt pl1 gd1 tt1 te) :=
  pe_imp (pe_lc2 hc hN hi ok hv hg ht hi1 hg1 ht1 he hs hs1) fun σ H Q h => comp2_run hsub hv hsub1 h
end
end Px
set_option Elab.async false
set_option linter.all false
set_option maxRecDepth 100000
namespace Px
open PySem PySem.Spec PyProof.Rows L2
section
variable {X : Cx} {W : WX} {o e : Expr} {po pe : PTE} {apos cpos : Pos}
end
end Px
set_option Elab.async false
set_option linter.all false
set_option maxRecDepth 100000
namespace Px
open PySem PySem.Spec PyProof.Rows L2
section
variable {X : Cx} {W : WX} {a : Expr} {pa : PTE} {p p2 q pos : Pos}
end
end Px
set_option Elab.async false
set_option linter.all false
set_option maxRecDepth 100000
namespace Px
open PySem PySem.Spec PyProof.Rows L2
section
variable {X : Cx} {W : WX} {a : Expr} {pa : PTE} {p p2 pos pos2 : Pos}
def rLenSet (w : World) : List V → Hp → VK → Prop := fun vs H Q => ∃ (a : Addr) (S : Int → Bool) (n : Nat), vs = [V.ref a] ∧ H a = some (SetO w a S n) ∧ n ≤ 100000 ∧ ∀ ms : List Int, ms.Nodup → (∀ k, k ∈ ms ↔ S k = true) → ms.length = n → Q (.int (n : Nat)) H
theorem cr_lenSet : CallR X (.builtin "len") (rLenSet X.w) := by
  intro pins s σ H xs us Q I r h
  obtain ⟨a, S, n, rfl, hH, hn, q⟩ := h
  rw [Vals.ref1 r]
  obtain ⟨o, es, ep, t, ho, hx, hd, _, hk, hS, _, hf, hs, _⟩ := setO_get I hH
  have hn2 : ((es.size : Nat) : Int) < 2 ^ 63 := by rw [hs]; omega
  refine call_len_set ho hx hd hf hn2 ?_
  rw [hs]
  exact ⟨.int (n : Nat), H, I.tok _, ⟨_, rfl⟩, q _ hk (fun k => (hS k).symm) (by rw [List.length_map, Array.length_toList, hs])⟩
def dLenSetX (pe : PTE) : PTE := fun w ρ M q => pe w ρ M fun d M1 => ∃ ns : List Int, (d = .lst (ns.map .int) ∨ d = .tup (ns.map .int)) ∧ ns.length ≤ 1000 ∧ ∀ ms : List Int, ms.Nodup → (∀ k, k ∈ ms ↔ k ∈ ns) → q (.int ((ms.length : Nat) : Int)) M1
theorem de_lenSetX (hc : X.calm = true) (hg : Gl X "len") (hm : X.mg "len" = none) (hgs : Gl X "set") (hms : X.mg "set" = none) (ha : DO X W a pa)
    (he : starEach [a] X.env = (false, eval a X.env) :: starEach [] X.env := by rfl) (hpl : (backTo pos (starEach [] X.env)).any (·.1) = false := by rfl)
    (he2 : starEach [Expr.Call (.Name "set" p) [a] [] pos] X.env = (false, eval (.Call (.Name "set" p) [a] [] pos) X.env) :: starEach [] X.env := by rfl) (hpl2 : (backTo pos2 (starEach [] X.env)).any (·.1) = false := by rfl) :
    DE X W (.Call (.Name "len" p2) [.Call (.Name "set" p) [a] [] pos] [] pos2) (dLenSetX pa) :=
  pe_imp (pe_callB cr_lenSet hg hm (by decide +kernel) (pa_cons (pe_callTy (cr_setI hc) hgs hms (by decide +kernel) (pa_cons ha pa_nil he) (by decide) (by decide) he hpl) pa_nil he2) (by decide) (by decide) he2 hpl2) fun σ H Q hE => hE.el fun g ρ M F O q w A pr hw k => by
    refine (.mk A pr hw (fun v H1 F1 O1 M1 d A1 s1 r1 q1 => ?_))
    obtain ⟨ns, hd, hl, q1⟩ := q1
    obtain ⟨pp, e1, hs⟩ : ∃ pp, v = V.ref pp ∧ (SqL X.K H1 pp (ns.map V.int) ∨ SqT X.K H1 pp (ns.map V.int)) := by
      rcases hd with rfl | rfl
      · obtain ⟨pp, xs, e1, h1, rl⟩ := r1.lst A1
        have ex := rpl_ints rl
        subst ex
        exact ⟨pp, e1, .inl (.inl (.inl h1))⟩
      · obtain ⟨pp, xs, e1, h1, rl⟩ := r1.tup A1
        have ex := rpl_ints rl
        subst ex
        exact ⟨pp, e1, .inr h1⟩
    refine ⟨pp, ns, by rw [e1], hs, by omega, fun D c hD hcn => ?_⟩
    have A2 := A1.laid (o := SetO X.w D (fun j => decide (j ∈ ns)) c) hD
    refine ⟨D, _, c, rfl, upd_same, by omega, fun ms h2 h3 h4 => ?_⟩
    have q3 := q1 ms h2 (fun j => (h3 j).trans decide_eq_true_iff)
    rw [h4] at q3
    exact k (.int (c : Nat)) _ F1 O1 M1 (.int (c : Nat)) A2 s1 rfl q3
end
end Px
set_option Elab.async false
set_option linter.all false
set_option maxRecDepth 100000
namespace Px
open PySem PySem.Spec PyProof.Rows L2
section
variable {X : Cx}
end
section
variable {X : Cx} {W : WX} {K : PySem.W.Frag} {a b : Expr} {pa pb : PTE} {pos : Pos}
end
end Px
set_option Elab.async false
set_option linter.all false
set_option maxRecDepth 100000
namespace Px
open PySem PySem.Spec PyProof.Rows L2
section
variable {X : Cx} {tg : Expr}
end
section
variable {X : Cx} {W : WX} {tg : Expr} {a b : Expr} {pa pb : PTE} {p pos : Pos}
end
end Px
set_option Elab.async false
set_option linter.all false
set_option maxRecDepth 100000
namespace Px
open PySem PySem.Spec PyProof.Rows L2
abbrev LamT := Arguments × Expr × Scope
section
variable {X : Cx} {W : WX} {c P : Addr} {qn : Str} {prm : Arguments} {bd : Expr} {scp : Scope} {lp : Pos} {Ls : List LamT} {k : Nat}
end
section
variable {B : Cx} {tg elt iter : Expr} {ifs : List Expr} {scope : Scope} {pos : Pos} {g : TG} {tt : TT} {te : TE} {vs : List Nat} {σ : L2.St} {J : It} {D it : Addr} {fp : List Addr} {tn : Nat → Heap → Prop} {Q : VK} {W : Nat → Nat → Hp → Prop}
end
section
variable {X : Cx} {W : WX}
end
end Px
set_option Elab.async false
set_option linter.all false
set_option maxRecDepth 100000
namespace Px
open PySem PySem.Spec PyProof.Rows L2
section
variable {X : Cx} {k l : Nat} {g : Addr} {fd : FuncData} {a x y qual qn : Str} {stm : Stmt} {N : List Str} {TT : PC → PC} {scope : Scope} {p p2 pos : Pos} {Ls : List LamT} {pbs : List PTE} {vs : List Nat}
end
section
variable {X : Cx} {W : WX} {tg elt iter : Expr} {scope : Scope} {own : List (Str × Nat)} {pos : Pos} {is : List Nat} {pl : PTA} {gd : PTG} {te : PTE}
end
end Px
set_option Elab.async false
set_option linter.all false
set_option maxRecDepth 100000
namespace Px
open PySem PySem.Spec PyProof.Rows L2
section
variable {K : PySem.W.Frag} {g : Gh} {σ : L2.St} {H F : Hp} {ρ : Rho} {M : Mm} {O : Own} {b : Addr}
end
section
variable {X : Cx} {W : WX} {k n : Nat} {f : Addr} {fd : FuncData} {ps : List Str} {sp : PSp} {x : Str} {p pos : Pos} {e : Expr} {es : List Expr} {pl : PTA}
end
end Px
set_option Elab.async false
set_option linter.all false
set_option maxRecDepth 100000
namespace Px
open PySem PySem.Spec PyProof.Rows L2
abbrev PSpN := List D → Mm → PQ → (List D → Mm → Prop) → PX → Prop
section
variable {P : Program} {w : World} {K : PySem.W.Frag} {mg : Str → Option Value} {base : Heap} {k : Nat} {f : Addr} {fd : FuncData} {ps N : List Str}
end
abbrev PTN := PWi → Rho → Mm → PQ → (List D → Mm → Prop) → Prop
section
variable {X : Cx} {W : WX} {k n : Nat} {f C : Addr} {fd : FuncData} {ps ks : List Str} {sp : PSpN} {x m : Str} {p pos apos : Pos} {e o c : Expr} {es : List Expr} {pl : PTA} {po pe : PTE} {pn : PTN} {pt : PTT} {kws : List Keyword} {ix : List Nat} {i : Nat}
end
end Px
set_option Elab.async false
set_option linter.all false
set_option maxRecDepth 100000
namespace Px
open PySem PySem.Spec PyProof.Rows L2
section
variable {X : Cx} {W : WX} {e : Expr} {pe : PTE} {pos p1 p2 p3 r1 r2 r3 : Pos}
end
end Px
set_option Elab.async false
set_option linter.all false
set_option maxRecDepth 100000
namespace Px
open PySem PySem.Spec PyProof.Rows L2
theorem set_self {α : Type} : ∀ {l : List α} {j : Nat} {x : α}, l[j]? = some x → l.set j x = l
  | [], _, _, h => by simp at h
  | _ :: _, 0, _, h => by simp at h; simp [h]
  | _ :: l, j + 1, _, h => by simp at h; simp [set_self (l := l) (by simpa using h)]
theorem gt_st_at : ∀ {ρ : Rho} {i : Nat} {x y : Sv}, gt ρ i = some x → gt (st ρ i y) i = some y
  | [], _, _, _, h => by cases h
  | _ :: r, 0, _, _, _ => rfl
  | x :: r, n + 1, _, _, h => gt_st_at (ρ := r) h
theorem st_st : ∀ (ρ : Rho) (i : Nat) (x y : Sv), st (st ρ i x) i y = st ρ i y
  | [], _, _, _ => rfl
  | _ :: r, 0, _, _ => rfl
  | z :: r, n + 1, x, y => by show z :: st (st r n x) n y = z :: st r n y; rw [st_st r n x y]
abbrev Bag := List (Addr × List D)
section
variable {K : PySem.W.Frag} {g : Gh} {σ : L2.St} {H : Hp} {ρ : Rho} {M : Mm} {F : Hp} {O : Own} {p : Addr} {i j : Nat} {d d' : D} {b : Bag} {l l' : List D} {xs ys : List V}
theorem Ab.chgB (A : Ab K g σ H ρ M F O) (hi : gt ρ i = some (.bag d b)) (hj : b[j]? = some (p, l)) (r : RpL K F l' ys) :
    Ab K g σ (upd H p (.lst ys)) (st ρ i (.bag d (b.set j (p, l')))) M F O := by
  obtain ⟨v, hv, rd, nd, hb⟩ := A.sl i _ hi
  obtain ⟨xs, hp, rl, hO⟩ := hb _ (List.mem_of_getElem? hj)
  have hp : H p = some (.lst xs) := hp
  have hO : O p = some (.slot i) := hO
  have ne : ∀ b u, O b = some u → u ≠ .slot i → b ≠ p := fun b u e n z => by rw [z, hO] at e; exact n (Option.some.inj e).symm
  obtain ⟨⟨ox, hx⟩, hF, _⟩ := A.liv p _ hO
  exact { sub := fun b u e => by rw [upd_ne (fun z => by rw [z, hF] at e; cases e)]; exact A.sub b u e
          ext0 := A.ext0, new := A.new
          frm := fun b u e n => by rw [upd_ne (fun z => by rw [z, A.slo p _ hO (fun _ z => by cases z)] at e; cases e)]; exact A.frm b u e n
          thr := fun b u e => by rw [upd_ne (fun z => by rw [z, A.slo p _ hO (fun _ z => by cases z)] at e; cases e)]; exact A.thr b u e
          liv := fun b u e => by
            obtain ⟨r1, r2⟩ := A.liv b u e
            refine ⟨?_, r2⟩
            by_cases z : b = p
            · subst z; exact ⟨_, upd_same⟩
            · rw [upd_ne z]; exact r1
          slo := A.slo
          tm := fun q l e => by
            obtain ⟨xs, e1, e2, e3⟩ := A.tm q l e
            exact ⟨xs, by rw [upd_ne (ne q _ e3 (fun z => by cases z))]; exact e1, e2, e3⟩
          mu := fun b mo e => (A.mu b mo e).mono (Same.refl F) fun q u e1 e2 => ⟨by rw [upd_ne (ne q _ e2 (fun z => by cases z))]; exact e1, e2⟩
          len := by rw [st_len]; exact A.len
          sl := fun k sv e => by
            by_cases z : k = i
            · subst z
              have e2 := gt_st_self e
              subst e2
              refine ⟨v, hv, rd, ?_, fun q hq => ?_⟩
              · rw [List.map_set, set_self (by rw [List.getElem?_map, hj]; rfl)]; exact nd
              · obtain ⟨m, hm⟩ := List.mem_iff_getElem?.mp hq
                by_cases z : m = j
                · subst z
                  have hjl : m < b.length := (List.getElem?_eq_some_iff.mp hj).1
                  rw [List.getElem?_set_self hjl] at hm
                  cases hm
                  exact ⟨ys, upd_same, r, hO⟩
                · rw [List.getElem?_set_ne (Ne.symm z)] at hm
                  obtain ⟨zs, e1, e2, e3⟩ := hb q (List.mem_of_getElem? hm)
                  refine ⟨zs, ?_, e2, e3⟩
                  rw [upd_ne]
                  · exact e1
                  · intro y
                    have h1 : (b.map (·.1))[m]? = some p := by rw [List.getElem?_map, hm]; exact congrArg some y
                    have h2 : (b.map (·.1))[j]? = some p := by rw [List.getElem?_map, hj]; rfl
                    have hml : m < (b.map (·.1)).length := (List.getElem?_eq_some_iff.mp h1).1
                    exact z ((List.getElem?_inj hml nd).mp (h1.trans h2.symm))
            · rw [gt_st_ne z] at e
              obtain ⟨u, e1, q⟩ := A.sl k sv e
              exact ⟨u, e1, q.mono (Same.refl F) fun q xs e1 e2 => ⟨by rw [upd_ne (ne q _ e2 (fun y => z (by cases y; rfl)))]; exact e1, e2⟩⟩ }
theorem Ab.thaw1 {q : Addr × List D} (A : Ab K g σ H ρ M F O) (hi : gt ρ i = some (.bag d (q :: b))) : ∃ F' O' xs, Ab K g σ H (st ρ i (.bag d b)) M F' O' ∧ Same F F' ∧ F' q.1 = some (.lst xs) ∧ RpL K F' q.2 xs := by
  obtain ⟨p, l⟩ := q
  obtain ⟨v, hv, rd, nd, hb⟩ := A.sl i _ hi
  obtain ⟨xs, hp, r, hO⟩ := hb _ List.mem_cons_self
  have hp : H p = some (.lst xs) := hp
  have hO : O p = some (.slot i) := hO
  obtain ⟨_, hF, _⟩ := A.liv p _ hO
  have s : Same F (upd F p (.lst xs)) := same_new hF
  have ne : ∀ b u, O b = some u → u ≠ .slot i → b ≠ p := fun b u e n z => by rw [z, hO] at e; exact n (Option.some.inj e).symm
  refine ⟨upd F p (.lst xs), fun b => if b = p then none else O b, xs, ?_, s, upd_same, RpL.mono s _ _ r⟩
  exact { sub := fun b u e => by
            by_cases z : b = p
            · subst z; rw [upd_same] at e; rw [hp]; exact e
            · rw [upd_ne z] at e; exact A.sub b u e
          ext0 := A.ext0.trans s
          new := fun b u e => by
            by_cases z : b = p
            · subst z; exact .inr (A.slo _ _ hO (fun _ z => by cases z))
            · rw [upd_ne z] at e; exact A.new b u e
          frm := A.frm, thr := A.thr
          liv := fun b u e => by
            by_cases z : b = p
            · rw [if_pos z] at e; cases e
            · rw [if_neg z] at e
              obtain ⟨r1, r2, r3⟩ := A.liv b u e
              exact ⟨r1, by rw [upd_ne z]; exact r2, r3⟩
          slo := fun b j e n => by
            by_cases z : b = p
            · rw [if_pos z] at e; cases e
            · rw [if_neg z] at e; exact A.slo b j e n
          tm := fun q l e => by
            obtain ⟨xs, e1, e2, e3⟩ := A.tm q l e
            exact ⟨xs, e1, RpL.mono s _ _ e2, by rw [if_neg (ne q _ e3 (fun z => by cases z))]; exact e3⟩
          mu := fun b mo e => (A.mu b mo e).mono s fun q u e1 e2 => ⟨e1, by rw [if_neg (ne q _ e2 (fun z => by cases z))]; exact e2⟩
          len := by rw [st_len]; exact A.len
          sl := fun k sv e => by
            by_cases z : k = i
            · subst z
              have e2 := gt_st_self e
              subst e2
              rw [List.map_cons, List.nodup_cons] at nd
              refine ⟨v, hv, Rp.mono s _ _ rd, nd.2, fun q hq => ?_⟩
              obtain ⟨zs, e1, e2, e3⟩ := hb q (List.mem_cons_of_mem _ hq)
              exact ⟨zs, e1, RpL.mono s _ _ e2, (if_neg (fun y => nd.1 (List.mem_map.mpr ⟨q, hq, y⟩))).trans e3⟩
            · rw [gt_st_ne z] at e
              obtain ⟨u, e1, q⟩ := A.sl k sv e
              exact ⟨u, e1, q.mono s fun q xs e1 e2 => ⟨e1, by rw [if_neg (ne q _ e2 (fun y => z (by cases y; rfl)))]; exact e2⟩⟩ }
theorem Ab.thaw : ∀ {b : Bag} {ρ : Rho} {F : Hp} {O : Own}, Ab K g σ H ρ M F O → gt ρ i = some (.bag d b) → ∃ F' O', Ab K g σ H (st ρ i (.bag d [])) M F' O' ∧ Same F F' ∧ ∀ q ∈ b, ∃ xs, F' q.1 = some (.lst xs) ∧ RpL K F' q.2 xs
  | [], ρ, F, O, A, hi => ⟨F, O, by
      refine A.congr (st_len _ _ _) fun j => ?_
      by_cases z : j = i
      · subst z; rw [gt_st_at hi, hi]
      · rw [gt_st_ne z], Same.refl F, fun q h => by cases h⟩
  | q :: b, ρ, F, O, A, hi => by
    obtain ⟨F1, O1, xs, A1, s1, h1, h2⟩ := A.thaw1 hi
    obtain ⟨F2, O2, A2, s2, h3⟩ := Ab.thaw A1 (gt_st_at hi)
    rw [st_st] at A2
    refine ⟨F2, O2, A2, s1.trans s2, fun q' hq => ?_⟩
    rcases List.mem_cons.mp hq with rfl | hq
    · exact ⟨xs, s2 _ _ h1, RpL.mono s2 _ _ h2⟩
    · exact h3 q' hq
theorem Ab.tell {x y : Sv} (A : Ab K g σ H ρ M F O) (hi : gt ρ i = some x) (h : ∀ v, SvOk K F H O i x v → SvOk K F H O i y v) : Ab K g σ H (st ρ i y) M F O :=
  { toWd := A.toWd, len := by rw [st_len]; exact A.len, sl := fun k sv e => by
      by_cases z : k = i
      · subst z
        have e2 := gt_st_self e
        subst e2
        obtain ⟨v, hv, r⟩ := A.sl k _ hi
        exact ⟨v, hv, h v r⟩
      · rw [gt_st_ne z] at e
        exact A.sl k sv e }
theorem Ab.tmpPerm {t t' : List (Addr × List D)} (A : Ab K { g with tmp := t } σ H ρ M F O) (h : ∀ q ∈ t', q ∈ t) : Ab K { g with tmp := t' } σ H ρ M F O :=
  { sub := A.sub, ext0 := A.ext0, new := A.new, frm := A.frm, thr := A.thr, liv := A.liv, slo := A.slo, len := A.len, sl := A.sl, mu := A.mu
    tm := fun p l e => A.tm p l (h _ e) }
theorem Ab.tmpBag {v : V} (A : Ab K { g with tmp := b ++ g.tmp } σ H ρ M F O) (nd : (b.map (·.1)).Nodup) (nd2 : ∀ q ∈ g.tmp, q.1 ∉ b.map (·.1)) (r : Rp K F d v) :
    Ab K g (σ.set i (some v)) H (st ρ i (.bag d b)) M F (fun a => if a ∈ b.map (·.1) then some (.slot i) else O a) := by
  have tmp : ∀ q ∈ b, ∃ xs, H q.1 = some (.lst xs) ∧ RpL K F q.2 xs ∧ O q.1 = some .tmp := fun q hq => A.tm q.1 q.2 (List.mem_append_left _ hq)
  have tmpA : ∀ a, a ∈ b.map (·.1) → O a = some .tmp := fun a ha => by
    obtain ⟨q, hq, e⟩ := List.mem_map.mp ha
    obtain ⟨_, _, _, h⟩ := tmp q hq
    rw [← e]; exact h
  have keep : ∀ a u, O a = some u → u ≠ .tmp → (if a ∈ b.map (·.1) then some (Ow.slot i) else O a) = some u := fun a u e n => by
    rw [if_neg (fun z => by rw [tmpA a z] at e; exact n (Option.some.inj e).symm)]; exact e
  exact { sub := A.sub, ext0 := A.ext0, new := A.new, frm := A.frm, thr := A.thr
          liv := fun a u e => by
            by_cases z : a ∈ b.map (·.1)
            · exact A.liv a _ (tmpA a z)
            · rw [if_neg z] at e; exact A.liv a u e
          slo := fun a u e n => by
            by_cases z : a ∈ b.map (·.1)
            · exact A.slo a _ (tmpA a z) fun m y => by cases y
            · rw [if_neg z] at e; exact A.slo a u e n
          tm := fun q l e => by
            obtain ⟨xs, e1, e2, e3⟩ := A.tm q l (List.mem_append_right _ e)
            exact ⟨xs, e1, e2, by rw [if_neg (nd2 _ e)]; exact e3⟩
          mu := fun a mo e => (A.mu a mo e).mono (Same.refl F) fun q u e1 e2 => ⟨e1, keep q _ e2 (fun z => by cases z)⟩
          len := by rw [List.length_set, st_len]; exact A.len
          sl := fun k sv e => by
            by_cases z : k = i
            · subst z
              have e2 := gt_st_self e
              subst e2
              refine ⟨v, set_same (by rw [← A.len]; exact gt_st_lt e), r, nd, fun q hq => ?_⟩
              obtain ⟨xs, e1, e2, _⟩ := tmp q hq
              exact ⟨xs, e1, e2, if_pos (List.mem_map_of_mem hq)⟩
            · rw [gt_st_ne z] at e
              obtain ⟨u, e1, q⟩ := A.sl k sv e
              exact ⟨u, by rw [List.getElem?_set_ne (Ne.symm z)]; exact e1, q.mono (Same.refl F) fun q xs e1 e2 => ⟨e1, keep q _ e2 (fun z => by cases z)⟩⟩ }
end
def rawL (ps : List Addr) : List D := ps.map fun p => .raw (.ref p)
def bagLL (D0 : Addr) (ps : List Addr) (ls : List (List D)) : Sv := .bag (.raw (.ref D0)) ((D0, rawL ps) :: ps.zip ls)
theorem rpl_rawL' {K : PySem.W.Frag} {F : Hp} : ∀ {ps : List Addr} {xs : List V}, RpL K F (rawL ps) xs → xs = ps.map V.ref
  | [], _, h => h
  | p :: ps, _, ⟨x, r, e1, h, t⟩ => by rw [e1, show x = V.ref p from h, rpl_rawL' t]; rfl
theorem rpl_lsts {K : PySem.W.Frag} {F : Hp} : ∀ {ps : List Addr} {ls : List (List D)}, ps.length = ls.length → (∀ q ∈ ps.zip ls, ∃ xs, F q.1 = some (.lst xs) ∧ RpL K F q.2 xs) → RpL K F (ls.map D.lst) (ps.map V.ref)
  | [], [], _, _ => rfl
  | [], _ :: _, h, _ => by cases h
  | _ :: _, [], h, _ => by cases h
  | p :: ps, l :: ls, h, k => by
    obtain ⟨xs, e1, e2⟩ := k (p, l) (by rw [List.zip_cons_cons]; exact List.mem_cons_self)
    exact ⟨_, _, rfl, ⟨p, xs, rfl, e1, e2⟩, rpl_lsts (Nat.succ.inj h) fun q hq => k q (by rw [List.zip_cons_cons]; exact List.mem_cons_of_mem _ hq)⟩
def dThLL (i : Nat) (p : PTS) : PTS := fun w P ρ M => ∃ D0 ps ls, gt ρ i = some (bagLL D0 ps ls) ∧ ps.length = ls.length ∧ p w P (st ρ i (.val (.lst (ls.map .lst)))) M
section
variable {X : Cx} {W : WX} {st1 : Stmt} {ss : List Stmt} {p : PTS}
theorem Ab.thawLL {K : PySem.W.Frag} {g : Gh} {σ : L2.St} {H : Hp} {ρ : Rho} {M : Mm} {F : Hp} {O : Own} {i : Nat} {D0 : Addr} {ps : List Addr} {ls : List (List D)} (A : Ab K g σ H ρ M F O) (hi : gt ρ i = some (bagLL D0 ps ls)) (hl : ps.length = ls.length) :
    ∃ F' O', Ab K g σ H (st ρ i (.val (.lst (ls.map .lst)))) M F' O' ∧ Same F F' := by
  obtain ⟨F', O', A', s, h⟩ := A.thaw hi
  obtain ⟨xs, h1, h2⟩ := h _ List.mem_cons_self
  have e := rpl_rawL' h2
  have A2 := A'.tell (y := .val (.lst (ls.map .lst))) (gt_st_at hi) fun v ⟨hv, _⟩ => by
    refine ⟨D0, xs, hv, h1, ?_⟩
    rw [e]
    exact rpl_lsts hl fun q hq => h q (List.mem_cons_of_mem _ hq)
  rw [st_st] at A2
  exact ⟨F', O', A2, s⟩
theorem thLL_run {K : PySem.W.Frag} {i : Nat} {D : Ends} {σ : L2.St} {H : Hp} (h : realS K W (dThLL i p) D σ H) : realS K W p D σ H := by
  obtain ⟨g, ρ, M, F, O, P, w, A, ⟨D0, ps, ls, e, hl, h⟩, hw, k⟩ := h
  obtain ⟨F', O', A', s⟩ := A.thawLL e hl
  obtain ⟨k1, k2, k3, k4, k5⟩ := k
  exact ⟨g, _, M, F', O', P, w, A', h, hw.mono s, fun σ2 H2 ρ2 M2 F2 O2 A2 s2 q2 => k1 σ2 H2 ρ2 M2 F2 O2 A2 (s.trans s2) q2, fun v σ2 H2 ρ2 M2 F2 O2 d A2 s2 r2 q2 => k2 v σ2 H2 ρ2 M2 F2 O2 d A2 (s.trans s2) r2 q2,
    fun σ2 H2 ρ2 M2 F2 O2 A2 s2 q2 => k3 σ2 H2 ρ2 M2 F2 O2 A2 (s.trans s2) q2, fun σ2 H2 ρ2 M2 F2 O2 A2 s2 q2 => k4 σ2 H2 ρ2 M2 F2 O2 A2 (s.trans s2) q2, fun a xs σ2 H2 ρ2 M2 F2 O2 ds A2 s2 e1 e2 e3 e4 e5 q2 => k5 a xs σ2 H2 ρ2 M2 F2 O2 ds A2 (s.trans s2) e1 e2 e3 e4 e5 q2⟩
theorem ds_thLL (i : Nat) (h : DS X W st1 p) : DS X W st1 (dThLL i p) := ps_imp h fun D σ H hh => thLL_run hh
end
end Px
set_option Elab.async false
set_option linter.all false
set_option maxRecDepth 100000
namespace Px
open PySem PySem.Spec PyProof.Rows L2
section
variable {X : Cx} {W : WX}
def dBagApp (i : Nat) (pa pe : PTE) : PTS := fun w P ρ M => ∃ D0 ps ls, gt ρ i = some (bagLL D0 ps ls) ∧ ps.length = ls.length ∧ pa w ρ M fun x M1 => ∃ n j l, x = .int n ∧ ixN ls.length n = some j ∧ ls[j]? = some l ∧
  pe w ρ M1 fun v M2 => l.length < 1000000 ∧ P.nx (st ρ i (bagLL D0 ps (ls.set j (l ++ [v])))) M2
theorem zip_get {α β : Type} : ∀ {xs : List α} {ys : List β} {j : Nat} {x : α} {y : β}, xs[j]? = some x → ys[j]? = some y → (xs.zip ys)[j]? = some (x, y)
  | [], _, _, _, _, h, _ => by simp at h
  | _ :: _, [], _, _, _, _, h => by simp at h
  | a :: xs, b :: ys, 0, _, _, h, k => by simp at h k; simp [h, k]
  | a :: xs, b :: ys, j + 1, _, _, h, k => by
    rw [List.zip_cons_cons, List.getElem?_cons_succ]
    exact zip_get (by simpa using h) (by simpa using k)
theorem zip_set {α β : Type} : ∀ {xs : List α} {ys : List β} {j : Nat} {x : α} {y : β}, xs[j]? = some x → (xs.zip ys).set j (x, y) = xs.zip (ys.set j y)
  | [], _, _, _, _, h => by simp at h
  | _ :: _, [], _, _, _, _ => by simp
  | a :: xs, b :: ys, 0, _, _, h => by simp at h; simp [h]
  | a :: xs, b :: ys, j + 1, _, _, h => by
    rw [List.zip_cons_cons, List.set_cons_succ, List.set_cons_succ, List.zip_cons_cons, zip_set (by simpa using h)]
theorem get_of_len {α β : Type} {xs : List α} {ys : List β} {j : Nat} {y : β} (h : xs.length = ys.length) (k : ys[j]? = some y) : ∃ x, xs[j]? = some x := by
  have : j < ys.length := (List.getElem?_eq_some_iff.mp k).1
  exact ⟨xs[j]'(by omega), List.getElem?_eq_getElem (by omega)⟩
section
variable {a e : Expr} {pa pe : PTE} {pos pi p1 p2 p3 : Pos}
theorem ds_bagApp (i : Nat) {x : Str} (ha : DE X W a pa) (he : DE X W e pe) (hx : PlainIx a := by exact fun _ _ => rfl) (hN : X.N[i]? = some x := by rfl) (hv : Vis X.env.scope x := by first | exact Or.inl rfl | exact Or.inr (Or.inl rfl) | exact Or.inr (Or.inr rfl)) (hd : (x == ("__debug__" : Str)) = false := by decide)
    (hcd : (x == ("__classdict__" : Str)) = false := by decide) (hs : starEach [e] X.env = (false, eval e X.env) :: starEach [] X.env := by rfl)
    (hbase : attributeBase (.Subscript (.Name x p1) a pi) "append" X.env (eval (.Subscript (.Name x p1) a pi) X.env) = eval (.Subscript (.Name x p1) a pi) X.env := by rfl)
    (hfew : ((backTo p3 (starEach [e] X.env)).all (fun x => !x.1) && (backToKw p3 (keywordEach [] X.env)).all (fun x => x.1.isSome)
      && decide ([e].length + ([] : List Keyword).length + (if ([] : List Keyword).isEmpty then 0 else 1) < 30)) = true := by rfl)
    (hline : (p2.endLine == p3.line) = true := by rfl) (hplain : (backTo p3 (starEach [] X.env)).any (·.1) = false := by rfl) :
    DS X W (.Expr (.Call (.Attribute (.Subscript (.Name x p1) a pi) "append" p2) [e] [] p3) pos) (dBagApp i pa pe) :=
  ps_imp (ps_expr (pe_bm PySem.F.plainAttrs_list PySem.F.slot_list_append PySem.F.type_list_append mt_append (pe_ix ix_list (pv i hN hv hd hcd) ha hx) (pa_cons he pa_nil hs) hbase hfew hline hs hplain))
    fun D σ H hE => hE.el fun g ρ M F O P w A ⟨D0, ps, ls, hg, hpl, h⟩ hw k1 _ _ _ _ => by
    obtain ⟨v0, hv0, r0, _, _⟩ := A.sl i _ hg
    have r0 : v0 = .ref D0 := r0
    subst r0
    refine ⟨.ref D0, hv0, g, ρ, M, F, O, _, w, A, h, hw, fun u H1 F1 O1 M1 y A1 s1 r1 ⟨n, j, l, ey, hj, hl, q1⟩ => ?_⟩
    subst ey
    have r1 : u = .int n := r1
    subst r1
    obtain ⟨v1, hv1, _, nd1, hb1⟩ := A1.sl i _ hg
    obtain ⟨xs, e1, rx, _⟩ := hb1 _ List.mem_cons_self
    have ex := rpl_rawL' rx
    subst ex
    obtain ⟨pj, hpj⟩ := get_of_len hpl hl
    have hz : (ps.zip ls)[j]? = some (pj, l) := zip_get hpj hl
    obtain ⟨ys, e2, ry, hO⟩ := hb1 _ (List.mem_cons_of_mem _ (List.mem_of_getElem? hz))
    refine ⟨D0, ps.map V.ref, n, .ref pj, rfl, rfl, .inl (.inl e1), ?_, .inl ⟨rfl, ys, .inl (.inl e2)⟩, g, ρ, M1, F1, O1, _, w, A1, q1, hw.mono s1, fun v H2 F2 O2 M2 dv A2 s2 r2 ⟨hz2, q2⟩ => ?_⟩
    · show atI (ps.map V.ref) n = some (.ref pj)
      unfold L2.atI
      rw [List.length_map, hpl, hj]
      show (ps.map V.ref)[j]? = some (.ref pj)
      rw [List.getElem?_map, hpj]; rfl
    · obtain ⟨v3, _, _, _, hb2⟩ := A2.sl i _ hg
      obtain ⟨zs, e3, rz, hO2⟩ := hb2 _ (List.mem_cons_of_mem _ (List.mem_of_getElem? hz))
      refine ⟨pj, zs, v, rfl, rfl, e3, by rw [← RpL.len rz]; exact line_lt hz2, ?_⟩
      have A3 := A2.chgB (j := j + 1) (l' := l ++ [dv]) hg (by rw [List.getElem?_cons_succ]; exact hz) (rz.app (show RpL X.K F2 [dv] [v] from ⟨v, [], rfl, r2, rfl⟩))
      rw [List.set_cons_succ, zip_set hpj] at A3
      exact k1 _ _ _ _ F2 O2 A3 (s1.trans s2) q2
end
end
def dLenB (i : Nat) : PTE := fun w ρ M q => ∃ D0 ps ls, gt ρ i = some (bagLL D0 ps ls) ∧ ps.length = ls.length ∧ q (.int ls.length) M
section
variable {X : Cx} {W : WX} {pos p p1 : Pos}
theorem de_lenB (i : Nat) {x : Str} (hg : Gl X "len") (hm : X.mg "len" = none) (hN : X.N[i]? = some x := by rfl) (hv : Vis X.env.scope x := by first | exact Or.inl rfl | exact Or.inr (Or.inl rfl) | exact Or.inr (Or.inr rfl)) (hd : (x == ("__debug__" : Str)) = false := by decide)
    (hcd : (x == ("__classdict__" : Str)) = false := by decide) (he : starEach [.Name x p1] X.env = (false, eval (.Name x p1) X.env) :: starEach [] X.env := by rfl) (hpl : (backTo pos (starEach [] X.env)).any (·.1) = false := by rfl) :
    DE X W (.Call (.Name "len" p) [.Name x p1] [] pos) (dLenB i) := pe_imp (pe_callB call_len_seq hg hm PySem.boot_len (pa_cons (pv i hN hv hd hcd) pa_nil he) (by decide) (by decide) he hpl) fun σ H Q hE => hE.el fun g ρ M F O q w A ⟨D0, ps, ls, hi, hl, pr⟩ hw k => by
  obtain ⟨v0, hv0, r0, _, hb⟩ := A.sl i _ hi
  have r0 : v0 = .ref D0 := r0
  subst r0
  obtain ⟨xs, e1, rx, _⟩ := hb _ List.mem_cons_self
  refine ⟨.ref D0, hv0, D0, xs, rfl, .inl (.inl (.inl e1)), ?_⟩
  have : xs.length = ls.length := by rw [← RpL.len rx, rawL, List.length_map, hl]
  rw [this]
  exact k (.int ls.length) H F O M (.int ls.length) A (Same.refl F) rfl pr
end
end Px
set_option Elab.async false
set_option linter.all false
set_option maxRecDepth 100000
namespace Px
open PySem PySem.Spec PyProof.Rows L2
def nilB (ps : List Addr) : Bag := ps.map fun p => (p, ([] : List D))
theorem nilB_zip : ∀ (ps : List Addr), nilB ps = ps.zip (ps.map fun _ => ([] : List D))
  | [] => rfl
  | p :: ps => congrArg _ (nilB_zip ps)
theorem nilB_fst (ps : List Addr) : (nilB ps).map (·.1) = ps := by unfold nilB; rw [List.map_map]; exact (List.map_congr_left (fun _ _ => rfl)).trans (List.map_id ps)
theorem nilB_rep (ps : List Addr) : ps.zip (List.replicate ps.length ([] : List D)) = nilB ps := by
  rw [nilB_zip]
  congr 1
  exact (List.eq_replicate_iff.mpr ⟨List.length_map _, fun b hb => by obtain ⟨_, _, e⟩ := List.mem_map.mp hb; exact e.symm⟩).symm
section
variable {X : Cx} {W : WX} {elt tg iter : Expr} {ifs : List Expr} {scope : Scope} {own : List (Str × Nat)} {pos : Pos} {pl : PTA} {gd : PTG} {is vs : List Nat}
theorem lcB_run {K : PySem.W.Frag} (hsub : ∀ j ∈ is, j ∈ vs) {σ : L2.St} {H : Hp} {Q : VK} {g : Gh} {ρ : Rho} {M : Mm} {F : Hp} {O : Own} {q : Nat → Mm → Prop} {w : PWi} (A : Ab K g σ H ρ M F O) (hW : okW ρ vs = true)
    (pr : pl w ρ M fun ds M1 => ds.length < 1000000 ∧ (∀ x ∈ ds, gd x (uns ρ vs) fun _ => True) ∧ q ds.length M1) (hw : WOk K g F W w)
    (k : ∀ (D0 : Addr) (ps : List Addr) (H' : Hp) (F' : Hp) (O' : Own) (M' : Mm), Ab K { g with tmp := ((D0, rawL ps) :: nilB ps) ++ g.tmp } σ H' ρ M' F' O' → Same F F' → (D0 :: ps).Nodup → (∀ e ∈ g.tmp, e.1 ∉ D0 :: ps) → q ps.length M' → Q (.ref D0) H') :
    tLc (realI K W pl) (realG K is gd) tYes (tLst tNil) vs σ H Q := by
  refine (.mk A pr hw (fun J H1 F1 O1 M1 ds A1 s1 wk ⟨hds, hgd, q1⟩ => fun D0 hD => ?_))
  have nd : ∀ p ∈ g.tmp, p.1 ≠ D0 := fun p hp z => by
    obtain ⟨xs, e1, _⟩ := A1.tm p.1 p.2 hp
    rw [z, hD] at e1; cases e1
  have A2 := ((A1.laid (o := .lst []) hD).tmpNew (l := []) upd_same rfl (A1.f0 hD) (A1.o0 hD) (A1.g0 hD)).wiped vs
  refine ⟨fun i m H' => ∃ F' O' ps, Ab K { g with tmp := (D0, rawL ps) :: (nilB ps ++ g.tmp) } (wipe σ vs) H' (uns ρ vs) M1 F' O' ∧ Same F1 F' ∧ i ≤ ds.length ∧ m = ds.length - i ∧ ps.length = i ∧ (D0 :: ps).Nodup ∧ (∀ e ∈ g.tmp, e.1 ∉ D0 :: ps),
    ⟨ds.length, F1, _, [], A2, Same.refl F1, Nat.zero_le _, rfl, rfl, by simp, fun e he => by simpa using nd e he⟩, ?_⟩
  rintro i m H2 ⟨F2, O2, ps, A3, s3, hi2, rfl, hpi, hn, hn2⟩
  by_cases hlt : i < ds.length
  · refine .inr ⟨wk.go _ _ _ _ _ _ _ i A3 s3 hlt, fun H' => ∃ F' O' ps', Ab K { g with tmp := (D0, rawL ps') :: (nilB ps' ++ g.tmp) } (wipe σ vs) H' (uns ρ vs) M1 F' O' ∧ Same F1 F' ∧ ps'.length = i + 1 ∧ (D0 :: ps').Nodup ∧ (∀ e ∈ g.tmp, e.1 ∉ D0 :: ps'), ?_, ?_⟩
    · rintro H' ⟨F', O', ps', A', s', hpi', hn', hn2'⟩
      exact ⟨ds.length - (i + 1), by omega, F', O', ps', A', s', hlt, rfl, hpi', hn', hn2'⟩
    · intro x H3 y3
      have hd := List.getElem?_eq_getElem hlt
      obtain ⟨F3, A4, s4, r4⟩ := wk.yl _ _ _ _ _ _ _ i x H3 _ A3 s3 y3 hd
      have q3 := hgd _ (List.getElem_mem hlt)
      refine ⟨_, uns ρ vs, M1, F3, O2, _, _, A4, r4, q3, fun σ5 ρ5 A5 n5 l5 _ => ?_⟩
      have ew : wipe σ5 vs = wipe σ vs := wipe_eq (by rw [l5, wipe_length]) fun j hj => (n5 j fun z => hj (hsub j z)).1
      have hl5 : ρ5.length = ρ.length := by rw [A5.len, l5, wipe_length, ← A1.len]
      have back : ∀ {t : List (Addr × List D)} {H' : Hp} {M' : Mm} {F' : Hp} {O' : Own}, Ab K { g with tmp := t } σ5 H' ρ5 M' F' O' → Ab K { g with tmp := t } (wipe σ vs) H' (uns ρ vs) M' F' O' := fun {t H' M' F' O'} Z => by
        have Z2 := Z.wiped vs
        rw [ew] at Z2
        refine Z2.congr (by rw [uns_len, uns_len, hl5]) fun j => ?_
        by_cases hj : j ∈ vs
        · rw [gt_uns.2 hj, gt_uns.2 hj]
        · rw [gt_uns.1 hj, gt_uns.1 hj]
          have z := (n5 j fun z => hj (hsub j z)).2
          rw [gt_uns.1 hj] at z
          exact z.symm
      refine ⟨ew, by show 0 ≤ sizeLine; decide, fun p hp => ?_⟩
      obtain ⟨xs, h1, h2, _⟩ := A5.tm D0 _ List.mem_cons_self
      have hpD : p ≠ D0 := fun z => by rw [z, h1] at hp; cases hp
      have hpt : ∀ e ∈ g.tmp, e.1 ≠ p := fun e he z => by
        obtain ⟨ys, e1, _⟩ := A5.tm e.1 e.2 (List.mem_cons_of_mem _ (List.mem_append_right _ he))
        rw [z, hp] at e1; cases e1
      have hpp : p ∉ ps := fun z => by
        obtain ⟨ys, e1, _⟩ := A5.tm p [] (List.mem_cons_of_mem _ (List.mem_append_left _ (List.mem_map.mpr ⟨p, z, rfl⟩)))
        rw [hp] at e1; cases e1
      have hnn : (D0 :: (ps ++ [p])).Nodup := by
        rw [List.nodup_cons] at hn ⊢
        refine ⟨fun z => ?_, ?_⟩
        · rcases List.mem_append.mp z with z | z
          · exact hn.1 z
          · exact hpD ((List.mem_singleton.mp z).symm)
        · rw [List.nodup_append]
          refine ⟨hn.2, by simp, fun a ha b hb e => ?_⟩
          have : b = p := by simpa using hb
          rw [e, this] at ha
          exact hpp ha
      have hn3 : ∀ e ∈ g.tmp, e.1 ∉ D0 :: (ps ++ [p]) := fun e he z => by
        rcases List.mem_cons.mp z with z | z
        · exact nd e he z
        · rcases List.mem_append.mp z with z | z
          · exact hn2 e he (List.mem_cons_of_mem _ z)
          · exact hpt e he (by simpa using z)
      have A6 := (A5.laid (o := .lst []) hp).tmpNew (l := []) upd_same rfl (A5.f0 hp) (A5.o0 hp) (A5.g0 hp)
      have A7 : Ab K { g with tmp := (D0, rawL ps) :: (nilB (ps ++ [p]) ++ g.tmp) } σ5 (upd H3 p (.lst [])) ρ5 M1 F3 _ := A6.tmpPerm (t' := (D0, rawL ps) :: (nilB (ps ++ [p]) ++ g.tmp)) fun e he => by
        rcases List.mem_cons.mp he with z | z
        · rw [z]; exact List.mem_cons_of_mem _ List.mem_cons_self
        · rcases List.mem_append.mp z with z | z
          · unfold nilB at z
            rw [List.map_append] at z
            rcases List.mem_append.mp z with z | z
            · exact List.mem_cons_of_mem _ (List.mem_cons_of_mem _ (List.mem_append_left _ z))
            · have z : e = (p, []) := by simpa using z
              rw [z]; exact List.mem_cons_self
          · exact List.mem_cons_of_mem _ (List.mem_cons_of_mem _ (List.mem_append_right _ z))
      have A8 := Ab.grow (g := { g with tmp := nilB (ps ++ [p]) ++ g.tmp }) (D0 := D0) (l := rawL ps) (l' := rawL (ps ++ [p])) (ys := xs ++ [.ref p]) A7 (fun e he z => by
          rcases List.mem_append.mp he with y | y
          · obtain ⟨p', hp', e'⟩ := List.mem_map.mp y
            rw [List.nodup_cons] at hnn
            exact hnn.1 (by rw [← z, ← e']; exact hp')
          · exact nd e y z) (by
          show RpL K F3 (rawL (ps ++ [p])) (xs ++ [.ref p])
          unfold rawL
          rw [List.map_append]
          exact h2.app ⟨_, _, rfl, rfl, rfl⟩)
      refine ⟨xs, by rw [upd_ne (Ne.symm hpD)]; exact h1, by rw [← h2.len]; unfold rawL; rw [List.length_map, hpi]; exact line_lt (Nat.lt_trans hlt hds), F3, _, ps ++ [p], back A8, s3.trans s4, by rw [List.length_append, hpi]; rfl, hnn, hn3⟩
  · have e : i = ds.length := by omega
    subst e
    refine .inl ⟨wk.sp _ _ _ _ _ _ _ A3 s3, ?_⟩
    have A4 := A3.unwiped A1 s3 hW
    exact k D0 ps H2 F2 O2 M1 A4 (s1.trans s3) hn hn2 (by rw [hpi]; exact q1)
def dPar2LB (i j : Nat) (vs : List Nat) (pl : PTA) (gd : PTG) : PTS := fun w P ρ M => okW ρ vs = true ∧ pl w ρ M fun ds M1 => ds.length < 1000000 ∧ (∀ x ∈ ds, gd x (uns ρ vs) fun _ => True) ∧
  ∀ D0 ps, ps.length = ds.length → P.nx (st (st ρ j (bagLL D0 ps (List.replicate ds.length []))) i (.own [])) M1
theorem ds_par2LB (i j : Nat) {x y : Str} {px py pt p1 pz : Pos} {kt k2 pt2} {spos : Pos} (hc : X.calm = true) (hN : X.N.Nodup) (hit : DI X W tg iter pl) (ok : BlkOk X.N X.env.scope scope own)
    (hg : ∀ (s : Shared) (H : Hp) (C : Addr) (cl : List (Str × Addr)) (fp : List Addr), DG (X.blk s H scope (compEnvC scope cl C X.env) fp) tg is gd) (hsub : ∀ j ∈ is, j ∈ own.map (·.2) := by decide)
    (hi : X.N[i]? = some x := by rfl) (hj : X.N[j]? = some y := by rfl) (hij : i ≠ j := by decide)
    (hx : X.env.scope.names.lookup x = some .local := by rfl) (hy : X.env.scope.names.lookup y = some .local := by rfl)
    (h1 : starEach [.List [] p1, .ListComp (.List [] pz) [⟨tg, iter, [], 0⟩] scope pos] X.env = (false, eval (.List [] p1) X.env) :: starEach [.ListComp (.List [] pz) [⟨tg, iter, [], 0⟩] scope pos] X.env := by rfl)
    (h2 : starEach [.ListComp (.List [] pz) [⟨tg, iter, [], 0⟩] scope pos] X.env = (false, eval (.ListComp (.List [] pz) [⟨tg, iter, [], 0⟩] scope pos) X.env) :: starEach [] X.env := by rfl)
    (hw : swappedStores [.Tuple [.Name x px, .Name y py] kt pt] (.Tuple [.List [] p1, .ListComp (.List [] pz) [⟨tg, iter, [], 0⟩] scope pos] k2 pt2) X.env = pure (some [x, y]) := by rfl)
    (hsw : swapsWithSole [.Tuple [.Name x px, .Name y py] kt pt] (.Tuple [.List [] p1, .ListComp (.List [] pz) [⟨tg, iter, [], 0⟩] scope pos] k2 pt2) spos.line X.env = pure false := by rfl)
    (hs : ∀ x, foldedSetIterable iter X.env x = pure x := by intro _; rfl) :
    DS X W (.Assign [.Tuple [.Name x px, .Name y py] kt pt] (.Tuple [.List [] p1, .ListComp (.List [] pz) [⟨tg, iter, [], 0⟩] scope pos] k2 pt2) spos) (dPar2LB i j (own.map (·.2)) pl gd) :=
  ps_imp (ps_par hc hN hi hj hij hx hy (pa_cons (pe_lst pa_nil) (pa_cons (pe_lc hc hN hit ok hg (fun _ _ _ _ _ => pts_nil) (fun _ _ _ _ _ => pe_lst pa_nil) hs) pa_nil h2) h1) hw hsw)
    fun D σ H hE => hE.el fun g ρ M F O P w A ⟨hW, pr⟩ hw k1 _ _ _ _ => by
    refine ⟨by show 0 ≤ sizeLine; decide, fun t ht => ?_⟩
    have A1 := A.laid (o := .lst []) ht
    have A2 := A1.tmpNew (D0 := t) (l := []) upd_same rfl (A.f0 ht) (A.o0 ht) (A.g0 ht)
    have ndt : ∀ q ∈ g.tmp, q.1 ≠ t := fun p hp z => by
      obtain ⟨xs, e1, _⟩ := A.tm p.1 p.2 hp
      rw [z, ht] at e1; cases e1
    have hw2 : WOk X.K { g with tmp := (t, []) :: g.tmp } F W w := fun cls dd σ H ρ M F' O fs a s x y => by
      obtain ⟨xs, O', A', _⟩ := a.made ndt
      exact hw cls dd σ H ρ M F' O' fs A' s x y
    refine lcB_run (g := { g with tmp := (t, []) :: g.tmp }) (q := fun n M1 => ∀ D0 ps, ps.length = n → P.nx (st (st ρ j (bagLL D0 ps (List.replicate n []))) i (.own [])) M1) hsub A2 hW pr hw2 fun D0 ps H' F' O' M' A3 s3 nd nd2 q => ?_
    have eb : ((D0, rawL ps) :: nilB ps).map (·.1) = D0 :: ps := by rw [List.map_cons, nilB_fst]
    have A4 := A3.tmpBag (g := { g with tmp := (t, []) :: g.tmp }) (i := j) (d := .raw (.ref D0)) (v := .ref D0) (by rw [eb]; exact nd) (by rw [eb]; exact nd2) rfl
    obtain ⟨xs, O5, A5, e1, e2, e3, e4, e5⟩ := A4.made ndt
    have e2 : xs = [] := e2
    subst e2
    have A6 := A5.putOwn (i := i) (l := []) e1 rfl e3 e4 e5
    rw [List.set_comm _ _ (Ne.symm hij)] at A6
    refine ⟨.ref t, .ref D0, rfl, k1 _ _ _ _ _ _ A6 s3 ?_⟩
    have := q D0 ps rfl
    unfold bagLL at this
    rw [nilB_rep] at this
    exact this
end
end Px
set_option Elab.async false
set_option linter.all false
set_option maxRecDepth 100000
namespace Px
open PySem PySem.Spec PyProof.Rows L2
section
variable {K : PySem.W.Frag} {g : Gh} {σ : L2.St} {H : Hp} {ρ : Rho} {M : Mm} {F : Hp} {O : Own} {p : Addr} {i j : Nat} {x y : Sv} {o : HO}
end
section
variable {X : Cx} {pins : List (Addr × Obj)} {σ : L2.St} {H F : Hp} {s : Shared}
end
section
variable {X : Cx} {W : WX} {o e f : Expr} {td ty tx : TE} {apos cpos : Pos}
end
def keyAt : List D → NestedKey → Option Nat
  | [], _ => none
  | d :: r, k => if nkOf d = some k then some 0 else (keyAt r k).map (· + 1)
section
variable {X : Cx} {W : WX} {kx e : Expr} {pk pe : PTE} {pos pz p1 p2 p3 p4 p5 : Pos}
section
variable {st1 : Stmt} {ss : List Stmt} {p : PTS}
end
end
end Px
set_option Elab.async false
set_option linter.all false
set_option maxRecDepth 100000
namespace Px
open PySem PySem.Spec PyProof.Rows L2
section
variable {K : PySem.W.Frag} {g : Gh} {σ : L2.St} {H : Hp} {ρ : Rho} {M : Mm} {F : Hp} {O : Own} {p : Addr} {i j : Nat} {x y : Sv} {v : V}
theorem Ab.putS (A : Ab K g σ H ρ M F O) (hex : ∃ u, H p = some u) (hF : F p = none) (hO : O p = none) (h0 : g.H0 p = none) (ok : SvOk K F H (fun b => if b = p then some (.slot i) else O b) i y v) :
    Ab K g (σ.set i (some v)) H (st ρ i y) M F (fun b => if b = p then some (.slot i) else O b) := by
  have keep : ∀ b u, O b = some u → (if b = p then some (Ow.slot i) else O b) = some u := fun b u e => by rw [if_neg (fun z => by rw [z, hO] at e; cases e)]; exact e
  exact { sub := A.sub, ext0 := A.ext0, new := A.new, frm := A.frm, thr := A.thr
          liv := fun b u e => by
            by_cases z : b = p
            · subst z; exact ⟨hex, hF, .inr h0⟩
            · rw [if_neg z] at e; exact A.liv b u e
          slo := fun b u e n => by
            by_cases z : b = p
            · subst z; exact h0
            · rw [if_neg z] at e; exact A.slo b u e n
          tm := fun q l e => by
            obtain ⟨xs, e1, e2, e3⟩ := A.tm q l e
            exact ⟨xs, e1, e2, keep q _ e3⟩
          mu := fun b m e => (A.mu b m e).mono (Same.refl F) fun q u e1 e2 => ⟨e1, keep q _ e2⟩
          len := by rw [List.length_set, st_len]; exact A.len
          sl := fun k sv e => by
            by_cases z : k = i
            · subst z
              have e2 := gt_st_self e
              subst e2
              exact ⟨v, set_same (by rw [← A.len]; exact gt_st_lt e), ok⟩
            · rw [gt_st_ne z] at e
              obtain ⟨u, e1, q⟩ := A.sl k sv e
              exact ⟨u, by rw [List.getElem?_set_ne (Ne.symm z)]; exact e1, q.mono (Same.refl F) fun q xs e1 e2 => ⟨e1, keep q _ e2⟩⟩ }
theorem Ab.putD (A : Ab K g σ H ρ M F O) (h : H p = none) : Ab K g (σ.set i (some (.ref p))) (upd H p (dkO p [])) (st ρ i (.dct p [] [])) M F (fun b => if b = p then some (.slot i) else O b) :=
  (A.laid (o := dkO p []) h).putS ⟨_, upd_same⟩ (A.f0 h) (A.o0 h) (A.g0 h) ⟨rfl, if_pos rfl, ⟨[], upd_same, Nat.zero_le _, rfl⟩, List.nodup_nil, fun q hq => by cases hq⟩
end
section
variable {X : Cx} {W : WX} {e : Expr} {pe : PTE} {pos p : Pos}
end
section
variable {X : Cx} {pins : List (Addr × Obj)} {σ : L2.St} {H F : Hp} {s : Shared}
end
section
variable {X : Cx} {W : WX} {a b e tg : Expr} {pa pb pe : PTE} {pos apos cpos : Pos}
end
end Px
set_option Elab.async false
set_option linter.all false
set_option maxRecDepth 100000
namespace Px
open PySem PySem.Spec PyProof.Rows L2
section
variable {X : Cx} {pins : List (Addr × Obj)} {σ : L2.St} {H : Hp} {s : Shared} {d : Addr} {o : Obj}
end
section
variable {P : Program} {w : World} {K : PySem.W.Frag} {d : Addr} {o : Obj} {es : Array DictEntry} {ep : Nat} {elts : List Expr} {kk : Nat} {tpos : Pos}
end
section
variable {X : Cx} {W : WX} {e : Expr} {td : TE} {pe : PTE} {apos cpos : Pos} {elts : List Expr} {kk : Nat} {tpos : Pos}
end
end Px
set_option Elab.async false
set_option linter.all false
set_option maxRecDepth 100000
namespace Px
open PySem PySem.Spec PyProof.Rows L2
section
variable {X : Cx} {W : WX} {e : Expr} {pe : PTE} {pos p1 p2 p3 : Pos}
end
end Px
set_option Elab.async false
set_option linter.all false
set_option maxRecDepth 100000
set_option maxHeartbeats 1000000
namespace Px
open PySem PySem.Spec PyProof.Rows L2
structure SeqIt (prog : Program) (w : World) (i l : Addr) (its : Array Value) (At : Heap → Nat → Prop) (Ob : Heap → Prop) : Prop where
  up : ∀ {h h' : Heap} {k : Nat}, At h k → (∀ o, h.get? i = some o → h'.get? i = some o) → At h' k
  upO : ∀ {h h' : Heap}, Ob h → (∀ o, h.get? l = some o → h'.get? l = some o) → Ob h'
  here : ∀ {h : Heap} {k : Nat}, At h k → ∃ (o : Obj) (fs : Array Value), h.get? i = some o ∧ o.data = .fields fs
  item : ∀ {A : Around} {E : Value → Shared → Prop} {s : Shared} {k : Nat} {x : Value} {Q : Value → Shared → Prop}, At s.heap k → Ob s.heap → its[k]? = some x → (∀ h', At h' (k + 1) → Heap.SameBut i s.heap h' → Q x { s with heap := h' }) →
    wpAny (model prog w) A (Builtin.SmallTypes.nextOf (.ref i)) Q E s
  stop : ∀ {A : Around} {E : Value → Shared → Prop} {s : Shared} {k : Nat} {Q : Value → Shared → Prop}, A.handled = none → At s.heap k → Ob s.heap → its[k]? = none →
    (∀ h' e, Heap.ExtBut i s.heap h' → (∃ o, h'.get? e = some o ∧ o.cls = .type "StopIteration") → E (.ref e) { s with heap := h' }) → wpAny (model prog w) A (Builtin.SmallTypes.nextOf (.ref i)) Q E s
theorem seqIt_list {prog : Program} {w : World} {i l : Addr} {its : Array Value} : SeqIt prog w i l its (fun h k => h.IsListIter i l k) (fun h => h.IsList l its) where
  up := fun x e => x.at e
  upO := fun x e => by obtain ⟨o, ho, r⟩ := x; exact ⟨o, e _ ho, r⟩
  here := fun ⟨o, h1, _, h2⟩ => ⟨o, _, h1, h2⟩
  item := fun h1 h2 h3 h4 => wpAny_nextOf_list_item h1 h2 h3 h4
  stop := fun h0 h1 h2 h3 h4 => wpAny_nextOf_list_end h0 h1 h2 h3 h4
theorem seqIt_tup {prog : Program} {w : World} {i l : Addr} {its : Array Value} : SeqIt prog w i l its (fun h k => h.IsTupleIter i l k) (fun h => h.IsTuple l its) where
  up := fun x e => x.at e
  upO := fun x e => by obtain ⟨o, ho, r⟩ := x; exact ⟨o, e _ ho, r⟩
  here := fun ⟨o, h1, _, h2⟩ => ⟨o, _, h1, h2⟩
  item := fun h1 h2 h3 h4 => RZ.nextOf_tuple_item h1 h2 h3 h4
  stop := fun h0 h1 h2 h3 h4 => RZ.nextOf_tuple_end h0 h1 h2 h3 h4
section
variable {prog : Program} {w : World} {A : Around} {E : Value → Shared → Prop} {s : Shared} {z TI TO i1 i2 l1 l2 : Addr} {k1 k2 : Nat} {xs ys : Array Value} {x y a b : Value} {At1 At2 : Heap → Nat → Prop} {Ob1 Ob2 : Heap → Prop}
theorem zipG_item {Q : Value → Shared → Prop} (D : ZipApart z TI TO i1 i2 l1 l2) (S1 : SeqIt prog w i1 l1 xs At1 Ob1) (S2 : SeqIt prog w i2 l2 ys At2 Ob2)
    (hz : IsZip s.heap z TI TO .none) (hTI : IsPair s.heap TI (.ref i1) (.ref i2)) (hTO : IsPair s.heap TO a b)
    (h1 : At1 s.heap k1) (h2 : At2 s.heap k2) (hl1 : Ob1 s.heap) (hl2 : Ob2 s.heap) (hx : xs[k1]? = some x) (hy : ys[k2]? = some y)
    (hQ : ∀ h', IsZip h' z TI TO (rawInt s.heap.objs.size) → IsPair h' TO x y → At1 h' (k1 + 1) → At2 h' (k2 + 1) → IsPair h' s.heap.objs.size x y → h'.objs.size = s.heap.objs.size + 1 →
      (∀ c o, c ≠ z → c ≠ TO → c ≠ i1 → c ≠ i2 → s.heap.get? c = some o → h'.get? c = some o) → Q (.ref s.heap.objs.size) { s with heap := h' }) :
    wpAny (model prog w) A (Builtin.«zip.__next__» ⟨[.ref z], []⟩) (fun fin s' => ∃ v, fin = .done (.ret v) ∧ Q v s') E s := by
  show wpAny _ _ (field (.ref z) 2 >>= _) _ _ _
  refine wpAny_bind (wpAny_field hz rfl (x := .bool false) rfl ?_)
  show wpAny _ _ (field (.ref z) 3 >>= _) _ _ _
  refine wpAny_bind (wpAny_field hz rfl (x := .ref TI) rfl ?_)
  refine wpAny_bind (wpAny_seqItems hTI rfl ?_)
  show wpAny _ _ (Builtin.SmallTypes.ownedTupleIsFree (.ref z) >>= _) _ _ _
  refine wpAny_bind ?_
  unfold Builtin.SmallTypes.ownedTupleIsFree
  refine wpAny_bind (wpAny_field hz rfl (x := .none) rfl (wpAny_pure ?_))
  simp only [if_true]
  refine wpAny_bind (wpAny_rule ?_)
  refine wpAny_bind (wpAny_field hz rfl (x := .ref TO) rfl ?_)
  refine wpAny_bind (wpAny_setField_rec hz (by simp) fun ha hza sa => ?_)
  replace hza : IsZip ha z TI TO .ellipsis := hza
  refine wpAny_bind ?_
  simp only [List.zipIdx_cons, List.zipIdx_nil, List.forIn_cons, List.forIn_nil]
  refine wpAny_bind (wpAny_bind (wpAny_onRaise ?_))
  show wpAny _ _ (Builtin.SmallTypes.nextOf (.ref i1) >>= _) _ _ _
  refine wpAny_bind (S1.item (S1.up h1 fun o e => sa.extBut _ _ D.i1z e) (S1.upO hl1 fun o e => sa.extBut _ _ D.l1z e) hx fun hb h1b sb => wpAny_pure ?_)
  have hTOb : IsPair hb TO a b := sb.extBut _ _ D.TOi1 (sa.extBut _ _ D.TOz hTO)
  refine wpAny_bind (wpAny_seqItems hTOb rfl ?_)
  refine wpAny_bind (wpAny_updateSeq_pair hTOb fun hc hTOc sc => ?_)
  replace hTOc : IsPair hc TO x b := hTOc
  refine wpAny_bind (wpAny_letGo (wpAny_pure ?_))
  refine wpAny_bind (wpAny_bind (wpAny_onRaise ?_))
  show wpAny _ _ (Builtin.SmallTypes.nextOf (.ref i2) >>= _) _ _ _
  refine wpAny_bind (S2.item (S2.up h2 fun o e => sc.extBut _ _ D.TOi2.symm (sb.extBut _ _ D.i12.symm (sa.extBut _ _ D.i2z e)))
    (S2.upO hl2 fun o e => sc.extBut _ _ D.l2TO (sb.extBut _ _ D.l2i1 (sa.extBut _ _ D.l2z e))) hy fun hd h2d sd => wpAny_pure ?_)
  have hTOd : IsPair hd TO x b := sd.extBut _ _ D.TOi2 hTOc
  refine wpAny_bind (wpAny_seqItems hTOd rfl ?_)
  refine wpAny_bind (wpAny_updateSeq_pair hTOd fun he hTOe se => ?_)
  replace hTOe : IsPair he TO x y := hTOe
  refine wpAny_bind (wpAny_letGo (wpAny_pure (wpAny_pure ?_)))
  refine wpAny_bind (wpAny_seqItems hTOe rfl ?_)
  refine wpAny_bind (wpAny_newTuple ?_)
  have hsz : he.objs.size = s.heap.objs.size := by rw [se.1, sd.1, sc.1, sb.1, sa.1]
  have hze : IsZip he z TI TO .ellipsis := se.extBut _ _ D.TOz.symm (sd.extBut _ _ D.i2z.symm (sc.extBut _ _ D.TOz.symm (sb.extBut _ _ D.i1z.symm hza)))
  have hk : ∀ c o, c ≠ z → c ≠ TO → c ≠ i1 → c ≠ i2 → s.heap.get? c = some o → he.get? c = some o := fun c o c1 c2 c3 c4 e =>
    se.extBut _ _ c2 (sd.extBut _ _ c4 (sc.extBut _ _ c2 (sb.extBut _ _ c3 (sa.extBut _ _ c1 e))))
  have h1e : At1 he (k1 + 1) := S1.up h1b fun o e => se.extBut _ _ D.TOi1.symm (sd.extBut _ _ D.i12 (sc.extBut _ _ D.TOi1.symm e))
  have h2e : At2 he (k2 + 1) := S2.up h2d fun o e => se.extBut _ _ D.TOi2.symm e
  have hzlt : z < he.objs.size := Heap.lt_size hze
  show wpAny _ _ (Builtin.SmallTypes.ownedTupleHandOut (.ref z) (.ref he.objs.size) >>= _) _ _ _
  refine wpAny_bind ?_
  unfold Builtin.SmallTypes.ownedTupleHandOut
  have hzf : IsZip (he.push { cls := .type "tuple", data := .seq #[x, y] }) z TI TO .ellipsis := Heap.get?_push_of_some _ hze
  refine wpAny_bind (wpAny_setField_rec hzf (by simp) fun hg hzg sg => ?_)
  replace hzg : IsZip hg z TI TO (rawInt he.objs.size) := hzg
  refine wpAny_setField_rec hzg (by simp) fun hh hzh sh => ?_
  replace hzh : IsZip hh z TI TO (rawInt he.objs.size) := hzh
  have up : ∀ c o, c ≠ z → he.get? c = some o → hh.get? c = some o := fun c o c1 e => sh.extBut _ _ c1 (sg.extBut _ _ c1 (Heap.get?_push_of_some _ e))
  have hTh : IsPair hh he.objs.size x y := sh.extBut _ _ (Nat.ne_of_gt hzlt) (sg.extBut _ _ (Nat.ne_of_gt hzlt) (Heap.get?_push_size _ rfl))
  have hzs : hh.objs.size = he.objs.size + 1 := by rw [sh.1, sg.1, Heap.size_push]
  rw [hsz] at hzh hTh hzs
  refine wpAny_pure ⟨_, rfl, ?_⟩
  show Q (.ref he.objs.size) _
  rw [hsz]
  exact hQ hh hzh (up _ _ D.TOz hTOe) (S1.up h1e fun o e => up _ o D.i1z e) (S2.up h2e fun o e => up _ o D.i2z e) hTh hzs fun c o c1 c2 c3 c4 e => up c o c1 (hk c o c1 c2 c3 c4 e)
theorem zipG_end {Q : Fin → Shared → Prop} (hh : A.handled = none) (D : ZipApart z TI TO i1 i2 l1 l2) (S1 : SeqIt prog w i1 l1 xs At1 Ob1) (S2 : SeqIt prog w i2 l2 ys At2 Ob2)
    (hz : IsZip s.heap z TI TO .none) (hTI : IsPair s.heap TI (.ref i1) (.ref i2)) (hTO : IsPair s.heap TO a b)
    (h1 : At1 s.heap k1) (h2 : At2 s.heap k2) (hl1 : Ob1 s.heap) (hl2 : Ob2 s.heap) (hend : xs[k1]? = none ∨ ys[k2]? = none)
    (hE : ∀ h' e, (∀ c o, c ≠ z → c ≠ TO → c ≠ i1 → c ≠ i2 → s.heap.get? c = some o → h'.get? c = some o) → (∃ o, h'.get? e = some o ∧ o.cls = .type "StopIteration") → E (.ref e) { s with heap := h' }) :
    wpAny (model prog w) A (Builtin.«zip.__next__» ⟨[.ref z], []⟩) Q E s := by
  show wpAny _ _ (field (.ref z) 2 >>= _) _ _ _
  refine wpAny_bind (wpAny_field hz rfl (x := .bool false) rfl ?_)
  show wpAny _ _ (field (.ref z) 3 >>= _) _ _ _
  refine wpAny_bind (wpAny_field hz rfl (x := .ref TI) rfl ?_)
  refine wpAny_bind (wpAny_seqItems hTI rfl ?_)
  show wpAny _ _ (Builtin.SmallTypes.ownedTupleIsFree (.ref z) >>= _) _ _ _
  refine wpAny_bind ?_
  unfold Builtin.SmallTypes.ownedTupleIsFree
  refine wpAny_bind (wpAny_field hz rfl (x := .none) rfl (wpAny_pure ?_))
  simp only [if_true]
  refine wpAny_bind (wpAny_rule ?_)
  refine wpAny_bind (wpAny_field hz rfl (x := .ref TO) rfl ?_)
  refine wpAny_bind (wpAny_setField_rec hz (by simp) fun ha hza sa => ?_)
  replace hza : IsZip ha z TI TO .ellipsis := hza
  refine wpAny_bind ?_
  simp only [List.zipIdx_cons, List.zipIdx_nil, List.forIn_cons, List.forIn_nil]
  refine wpAny_bind (wpAny_bind (wpAny_onRaise ?_))
  show wpAny _ _ (Builtin.SmallTypes.nextOf (.ref i1) >>= _) _ _ _
  have at1 := S1.up h1 fun o e => sa.extBut _ _ D.i1z e
  have ob1 := S1.upO hl1 fun o e => sa.extBut _ _ D.l1z e
  cases hx : xs[k1]? with
  | none =>
    refine wpAny_bind (S1.stop hh at1 ob1 hx fun hb e sb hex => ?_)
    obtain ⟨oe, hoe, hce⟩ := hex
    have hzb : IsZip hb z TI TO .ellipsis := sb _ _ D.i1z.symm hza
    have hez : e ≠ z := fun q => by subst q; rw [hzb] at hoe; cases hoe; simp at hce
    exact wpAny_setField_rec hzb (by simp) fun hc _ sc => hE hc e (fun c o c1 _ c3 _ q => sc.extBut _ _ c1 (sb _ _ c3 (sa.extBut _ _ c1 q))) ⟨oe, sc.extBut _ _ hez hoe, hce⟩
  | some x =>
    have hy : ys[k2]? = none := by rcases hend with h | h; rw [hx] at h; cases h; exact h
    refine wpAny_bind (S1.item at1 ob1 hx fun hb h1b sb => wpAny_pure ?_)
    have hTOb : IsPair hb TO a b := sb.extBut _ _ D.TOi1 (sa.extBut _ _ D.TOz hTO)
    refine wpAny_bind (wpAny_seqItems hTOb rfl ?_)
    refine wpAny_bind (wpAny_updateSeq_pair hTOb fun hc hTOc sc => ?_)
    refine wpAny_bind (wpAny_letGo (wpAny_pure ?_))
    refine wpAny_bind (wpAny_bind (wpAny_onRaise ?_))
    show wpAny _ _ (Builtin.SmallTypes.nextOf (.ref i2) >>= _) _ _ _
    refine wpAny_bind (S2.stop hh (S2.up h2 fun o e => sc.extBut _ _ D.TOi2.symm (sb.extBut _ _ D.i12.symm (sa.extBut _ _ D.i2z e)))
      (S2.upO hl2 fun o e => sc.extBut _ _ D.l2TO (sb.extBut _ _ D.l2i1 (sa.extBut _ _ D.l2z e))) hy fun hd e sd hex => ?_)
    obtain ⟨oe, hoe, hce⟩ := hex
    have hzd : IsZip hd z TI TO .ellipsis := sd _ _ D.i2z.symm (sc.extBut _ _ D.TOz.symm (sb.extBut _ _ D.i1z.symm hza))
    have hez : e ≠ z := fun q => by subst q; rw [hzd] at hoe; cases hoe; simp at hce
    exact wpAny_setField_rec hzd (by simp) fun he _ se => hE he e (fun c o c1 c2 c3 c4 q => se.extBut _ _ c1 (sd _ _ c4 (sc.extBut _ _ c2 (sb.extBut _ _ c3 (sa.extBut _ _ c1 q))))) ⟨oe, se.extBut _ _ hez hoe, hce⟩
end
end Px
set_option Elab.async false
set_option linter.all false
set_option maxRecDepth 100000
set_option maxHeartbeats 1000000
namespace Px
open PySem PySem.Spec PyProof.Rows L2
def SqK (K : PySem.W.Frag) (H : Hp) (t : Bool) (a : Addr) (xs : List V) : Prop := if t = true then SqT K H a xs else SqL K H a xs
def AtK (t : Bool) (i l : Addr) (h : Heap) (k : Nat) : Prop := if t = true then h.IsTupleIter i l k else h.IsListIter i l k
def ObK (t : Bool) (l : Addr) (its : Array Value) (h : Heap) : Prop := if t = true then h.IsTuple l its else h.IsList l its
def itO (t : Bool) (l : Addr) : Obj := { cls := .type (if t = true then "tuple_iterator" else "list_iterator"), data := .fields #[.ref l, .int 0 0] }
theorem seqIt_k {prog : Program} {w : World} {i l : Addr} {its : Array Value} (t : Bool) : SeqIt prog w i l its (AtK t i l) (ObK t l its) := by
  cases t with
  | true => exact seqIt_tup
  | false => exact seqIt_list
theorem iter_k {prog : Program} {w : World} {A : Around} {E : Value → Shared → Prop} {s : Shared} {l : Addr} {its : Array Value} {Q : Value → Shared → Prop} (t : Bool) (h : ObK t l its s.heap) (hQ : Q (.ref s.heap.objs.size) { s with heap := s.heap.push (itO t l) }) :
    wpAny (model prog w) A (pyIter (.ref l)) Q E s := by
  cases t with
  | true => exact wpAny_pyIter_tuple (show s.heap.IsTuple l its from h) hQ
  | false => exact wpAny_pyIter_list (show s.heap.IsList l its from h) hQ
theorem at0_k {t : Bool} {i l : Addr} {h : Heap} (e : h.get? i = some (itO t l)) : AtK t i l h 0 := by
  cases t with
  | true => exact ⟨_, e, rfl, rfl⟩
  | false => exact ⟨_, e, rfl, rfl⟩
theorem ob_push {t : Bool} {l : Addr} {its : Array Value} {h : Heap} (o : Obj) (x : ObK t l its h) : ObK t l its (h.push o) := by
  cases t with
  | true => obtain ⟨o', ho, r⟩ := (show h.IsTuple l its from x); exact ⟨o', Heap.get?_push_of_some _ ho, r⟩
  | false => obtain ⟨o', ho, r⟩ := (show h.IsList l its from x); exact ⟨o', Heap.get?_push_of_some _ ho, r⟩
section
variable {X : Cx} {pins : List (Addr × Obj)} {σ : L2.St} {H : Hp} {s : Shared}
theorem sq_its (I : Inv X pins σ H s) {t : Bool} {a : Addr} {xs : List V} (h : SqK X.K H t a xs) : ∃ its : List Value, Vals xs its ∧ ObK t a its.toArray s.heap ∧ a < s.heap.objs.size := by
  cases t with
  | true =>
    obtain ⟨its, r, p, _⟩ := I.tuple (show SqT X.K H a xs from h)
    obtain ⟨o, ho, _⟩ := id p
    exact ⟨its, r, p, Heap.lt_size ho⟩
  | false =>
    obtain ⟨its, r, p, _⟩ := I.list (show SqL X.K H a xs from h)
    exact ⟨its, r, p.isList, p.lt⟩
theorem sq_inj (I : Inv X pins σ H s) {t : Bool} {a : Addr} {xs ys : List V} (h : SqK X.K H t a xs) (h' : SqK X.K H t a ys) : xs = ys := by
  cases t with
  | true => exact I.tuple_inj h h'
  | false => exact I.list_inj h h'
end
def ItzG (K : PySem.W.Frag) (t u : Bool) (a b : Addr) : It :=
  ⟨fun i H => ∃ (xs ys : List V) (x y : V), SqK K H t a xs ∧ SqK K H u b ys ∧ xs[i]? = some x ∧ ys[i]? = some y,
    fun i H v H' => ∃ T x y, v = .ref T ∧ H T = none ∧ H' = upd H T (.tup [x, y]) ∧ (∀ xs, SqK K H t a xs → xs[i]? = some x) ∧ ∀ ys, SqK K H u b ys → ys[i]? = some y,
    fun i H => ∃ xs ys : List V, SqK K H t a xs ∧ SqK K H u b ys ∧ (xs.length ≤ i ∨ ys.length ≤ i)⟩
theorem five {z TI TO i1 i2 c : Addr} (h : c ∈ [z, TI, TO, i1, i2]) : c = z ∨ c = TI ∨ c = TO ∨ c = i1 ∨ c = i2 := by simpa using h
theorem turn_zipG {P : Program} {w : World} {K : PySem.W.Frag} {elts : List Expr} {kk : Nat} {tpos : Pos} {t u : Bool} {a b z TI TO i1 i2 : Addr} (D : ZipApart z TI TO i1 i2 a b) :
    Turn P w K (.Tuple elts kk tpos) (ItzG K t u a b) [z, TI, TO, i1, i2] z (fun i h => IsZip h z TI TO .none ∧ IsPair h TI (.ref i1) (.ref i2) ∧ (∃ x y, IsPair h TO x y) ∧ AtK t i1 a h i ∧ AtK u i2 b h i) where
  mem := by simp
  obj := fun i h st c hc => by
    obtain ⟨hz, hTI, ⟨x, y, hTO⟩, h1, h2⟩ := st
    obtain ⟨o1, f1, e1, d1⟩ := (seqIt_k (prog := P) (w := w) (its := #[]) t).here h1
    obtain ⟨o2, f2, e2, d2⟩ := (seqIt_k (prog := P) (w := w) (its := #[]) u).here h2
    rcases five hc with q | q | q | q | q <;> rw [q]
    · exact ⟨_, hz, fun v q => nomatch q⟩
    · exact ⟨_, hTI, fun v q => nomatch q⟩
    · exact ⟨_, hTO, fun v q => nomatch q⟩
    · exact ⟨o1, e1, fun v q => by rw [d1] at q; cases q⟩
    · exact ⟨o2, e2, fun v q => by rw [d2] at q; cases q⟩
  keep := fun i h h' st k => by
    obtain ⟨hz, hTI, ⟨x, y, hTO⟩, h1, h2⟩ := st
    exact ⟨k z (by simp) _ hz, k TI (by simp) _ hTI, ⟨x, y, k TO (by simp) _ hTO⟩, (seqIt_k (prog := P) (w := w) (its := #[]) t).up h1 fun o q => k i1 (by simp) o q, (seqIt_k (prog := P) (w := w) (its := #[]) u).up h2 fun o q => k i2 (by simp) o q⟩
  item := by
    intro X hP hw hK hc i pins s σ H E I hf st hg
    subst hP hw hK
    obtain ⟨hz, hTI, ⟨x0, y0, hTO⟩, h1, h2⟩ := st
    obtain ⟨xs, ys, x, y, hqx, hqy, hx, hy⟩ := hg
    obtain ⟨its, rv, p, _⟩ := sq_its I hqx
    obtain ⟨its2, rv2, p2, _⟩ := sq_its I hqy
    obtain ⟨v1, hv1, ru⟩ := rv.get hx
    obtain ⟨v2, hv2, ru2⟩ := rv2.get hy
    have S1 := seqIt_k (prog := X.prog) (w := X.w) (i := i1) (l := a) (its := its.toArray) t
    have S2 := seqIt_k (prog := X.prog) (w := X.w) (i := i2) (l := b) (its := its2.toArray) u
    have hzl : z < s.heap.objs.size := Heap.lt_size hz
    have hT : s.TypeIs (.ref z) "zip" := ⟨_, hz, rfl⟩
    unfold pyNext
    refine wpAny_bind (wpAny_attempt (wpAny_callSpecial?_slot (name := Str.ofString "__next__") hT PySem.F.slot_zip_next
      (wpAny_call_entry PySem.F.slot_zip_next hT PySem.F.entry_zip_next
        (zipG_item D S1 S2 hz hTI hTO h1 h2 p p2 (x := v1) (y := v2) (by simpa using hv1) (by simpa using hv2) fun h' z' TO' h1' h2' hTT hsz hk => wpAny_pure ?_) (PySem.F.args_zip_next_1 _))))
    refine ⟨_, rfl, wpAny_letOwnedTupleGo_zip (s := { s with heap := h' }) z' fun h'' z'' sb => ?_⟩
    have hT2 : h''.get? s.heap.objs.size = some { cls := .type "tuple", data := .seq #[v1, v2] } := (sb.2 _ (Nat.ne_of_gt hzl)).trans hTT
    have new : ObjOk X.prog X.w (upd H s.heap.objs.size (.tup [x, y])) h'' s.heap.objs.size (.tup [x, y]) :=
      ⟨by show 2 ≤ sizeLine; decide, [v1, v2], .cons ru (.cons ru2 .nil), ⟨_, hT2, rfl, _, rfl⟩⟩
    have off : ∀ c, c ∉ [z, TI, TO, i1, i2] → c ≠ z ∧ c ≠ TO ∧ c ≠ i1 ∧ c ≠ i2 := fun c hb => ⟨fun q => hb (by simp [q]), fun q => hb (by simp [q]), fun q => hb (by simp [q]), fun q => hb (by simp [q])⟩
    have I1 : Inv X pins σ (upd H s.heap.objs.size (.tup [x, y])) { s with heap := h'' } :=
      I.turnedNew (t' := s.toks) (ch := [z, TI, TO, i1, i2]) (fun c o hb q => (sb.2 c (off c hb).1).trans (hk c o (off c hb).1 (off c hb).2.1 (off c hb).2.2.1 (off c hb).2.2.2 q)) hf (Nat.le_refl _) new
    refine ⟨.ref s.heap.objs.size, _, I1, rfl, ⟨_, x, y, rfl, I.hok.fresh (Nat.le_refl _), rfl, fun l hl => by rw [sq_inj I hl hqx]; exact hx, fun l hl => by rw [sq_inj I hl hqy]; exact hy⟩, ⟨z'', ?_, ⟨v1, v2, ?_⟩, ?_, ?_⟩, fun c hcm => ?_⟩
    · exact (sb.2 _ D.TIz).trans (hk _ _ D.TIz D.TITO D.TIi1 D.TIi2 hTI)
    · exact (sb.2 _ D.TOz).trans TO'
    · exact S1.up h1' fun o q => (sb.2 _ D.i1z).trans q
    · exact S2.up h2' fun o q => (sb.2 _ D.i2z).trans q
    · have hlt : c < s.heap.objs.size := by
        obtain ⟨_, _, e1, _⟩ := S1.here h1
        obtain ⟨_, _, e2, _⟩ := S2.here h2
        rcases five hcm with q | q | q | q | q <;> rw [q]
        · exact hzl
        · exact Heap.lt_size hTI
        · exact Heap.lt_size hTO
        · exact Heap.lt_size e1
        · exact Heap.lt_size e2
      rw [upd_ne (Nat.ne_of_lt hlt)]
      exact (hf c hcm).1
  done := by
    intro X hP hw hK hc i pins s σ H E I hf st hg
    subst hP hw hK
    obtain ⟨hz, hTI, ⟨x0, y0, hTO⟩, h1, h2⟩ := st
    obtain ⟨xs, ys, hqx, hqy, hend⟩ := hg
    obtain ⟨its, rv, p, _⟩ := sq_its I hqx
    obtain ⟨its2, rv2, p2, _⟩ := sq_its I hqy
    have l1 := rv.length
    have l2 := rv2.length
    have he : its.toArray[i]? = none ∨ its2.toArray[i]? = none := by
      rcases hend with q | q
      · exact .inl (by simp; omega)
      · exact .inr (by simp; omega)
    have S1 := seqIt_k (prog := X.prog) (w := X.w) (i := i1) (l := a) (its := its.toArray) t
    have S2 := seqIt_k (prog := X.prog) (w := X.w) (i := i2) (l := b) (its := its2.toArray) u
    have hT : s.TypeIs (.ref z) "zip" := ⟨_, hz, rfl⟩
    have off : ∀ c, c ∉ [z, TI, TO, i1, i2] → c ≠ z ∧ c ≠ TO ∧ c ≠ i1 ∧ c ≠ i2 := fun c hb => ⟨fun q => hb (by simp [q]), fun q => hb (by simp [q]), fun q => hb (by simp [q]), fun q => hb (by simp [q])⟩
    unfold pyNext
    refine wpAny_bind (wpAny_attempt (wpAny_callSpecial?_slot (name := Str.ofString "__next__") hT PySem.F.slot_zip_next
      (wpAny_call_entry PySem.F.slot_zip_next hT PySem.F.entry_zip_next (zipG_end (I.ok.hd hc) D S1 S2 hz hTI hTO h1 h2 p p2 he fun h' e hk hex => ?_) (PySem.F.args_zip_next_1 _))))
    obtain ⟨o, ho, hcl⟩ := hex
    refine wpAny_bind (wpAny_isInstance (T := "StopIteration") (b := true) ⟨o, ho, hcl⟩ isSubtype_stop ?_)
    exact wpAny_pure ⟨rfl, I.turnedL (t' := s.toks) (ch := [z, TI, TO, i1, i2]) (fun c o hb q => hk c o (off c hb).1 (off c hb).2.1 (off c hb).2.2.1 (off c hb).2.2.2 q) hf⟩
  self := fun A i s Q E st h => wpAny_pyIter_zip st.1 h
end Px
set_option Elab.async false
set_option linter.all false
set_option maxRecDepth 100000
set_option maxHeartbeats 1000000
namespace Px
open PySem PySem.Spec PyProof.Rows L2
abbrev zgA (h : Heap) (t : Bool) (a : Addr) : Heap := h.push (itO t a)
abbrev zgB (h : Heap) (t u : Bool) (a b : Addr) : Heap := (zgA h t a).push (itO u b)
abbrev zgC (h : Heap) (t u : Bool) (a b : Addr) : Heap := (zgB h t u a b).push { cls := .type "tuple", data := .seq #[.ref h.objs.size, .ref (zgA h t a).objs.size] }
abbrev zgD (h : Heap) (t u : Bool) (a b : Addr) : Heap := (zgC h t u a b).push { cls := .type "tuple", data := .seq #[.none, .none] }
abbrev zgE (h : Heap) (t u : Bool) (a b : Addr) : Heap := (zgD h t u a b).push { cls := .type "zip", data := .fields #[.none, .bool false, .bool false, .ref (zgB h t u a b).objs.size, .ref (zgC h t u a b).objs.size] }
theorem meets_zg (t u : Bool) (a b : Addr) (xs ys : Array Value) :
    Meets (Builtin.«zip.__new__» ⟨[.type "zip", .ref a, .ref b], []⟩) (fun _ R s => ObK t a xs s.heap ∧ ObK u b ys s.heap ∧
      R (.ok (.ret (.ref (zgD s.heap t u a b).objs.size))) { s with heap := zgE s.heap t u a b }) :=
  .of_wp fun prog w A R s h => by
    obtain ⟨hp, g, d, tk, os⟩ := s
    obtain ⟨hl1, hl2, h⟩ := h
    have hsub := sub_zip
    have hL1 : ObK t a xs (Shared.heap ⟨hp, g, d, tk, os⟩) := hl1
    have hL2 : ObK u b ys (Shared.heap ⟨hp.push (itO t a), g, d, tk, os⟩) := ob_push _ hl2
    wp_walk using iter_k t hL1, iter_k u hL2
    exact ⟨_, rfl, h⟩
section
variable {prog : Program} {w : World} {A : Around} {E : Value → Shared → Prop} {s : Shared}
theorem call_zg {t u : Bool} {a b : Addr} {xs ys : Array Value} {Q : Value → Shared → Prop} (hl1 : ObK t a xs s.heap) (hl2 : ObK u b ys s.heap)
    (h : ∀ h', IsZip h' (s.heap.objs.size + 4) (s.heap.objs.size + 2) (s.heap.objs.size + 3) .none → IsPair h' (s.heap.objs.size + 2) (.ref s.heap.objs.size) (.ref (s.heap.objs.size + 1)) →
      IsPair h' (s.heap.objs.size + 3) .none .none → AtK t s.heap.objs.size a h' 0 → AtK u (s.heap.objs.size + 1) b h' 0 → (∀ c o, s.heap.get? c = some o → h'.get? c = some o) → Q (.ref (s.heap.objs.size + 4)) { s with heap := h' }) :
    wpAny (model prog w) A (call (.type "zip") [.ref a, .ref b]) Q E s := by
  refine callType_new PySem.F.called_zip (by decide) (PySem.F.typeCall_zip_2 _ _) (PySem.F.newCall_zip_2 _ _) (fun obj => PySem.F.args_object_init_3 obj _ _) PySem.F.entry_zip_new
    (meets_zg t u a b xs ys) ⟨hl1, hl2, ?_⟩
  have za : (zgA s.heap t a).objs.size = s.heap.objs.size + 1 := Heap.size_push ..
  have zb : (zgB s.heap t u a b).objs.size = s.heap.objs.size + 2 := by rw [Heap.size_push, za]
  have zc : (zgC s.heap t u a b).objs.size = s.heap.objs.size + 3 := by rw [Heap.size_push, zb]
  have zd : (zgD s.heap t u a b).objs.size = s.heap.objs.size + 4 := by rw [Heap.size_push, zc]
  have ge : (zgE s.heap t u a b).get? (zgD s.heap t u a b).objs.size = some _ := Heap.get?_push_size _ rfl
  have gd : (zgE s.heap t u a b).get? (zgC s.heap t u a b).objs.size = some _ := Heap.get?_push_of_some _ (Heap.get?_push_size _ rfl)
  have gc : (zgE s.heap t u a b).get? (zgB s.heap t u a b).objs.size = some _ := Heap.get?_push_of_some _ (Heap.get?_push_of_some _ (Heap.get?_push_size _ rfl))
  have gb : (zgE s.heap t u a b).get? (zgA s.heap t a).objs.size = some (itO u b) := Heap.get?_push_of_some _ (Heap.get?_push_of_some _ (Heap.get?_push_of_some _ (Heap.get?_push_size _ rfl)))
  have ga : (zgE s.heap t u a b).get? s.heap.objs.size = some (itO t a) := Heap.get?_push_of_some _ (Heap.get?_push_of_some _ (Heap.get?_push_of_some _ (Heap.get?_push_of_some _ (Heap.get?_push_size _ rfl))))
  show _ ∧ _
  rw [zb, zc, zd] at ge
  rw [za, zb] at gc
  rw [zc] at gd
  rw [za] at gb
  rw [zd]
  exact ⟨⟨_, ge, rfl⟩, h _ ge gc gd (at0_k ga) (at0_k gb) fun c o x => Heap.get?_push_of_some _ (Heap.get?_push_of_some _ (Heap.get?_push_of_some _ (Heap.get?_push_of_some _ (Heap.get?_push_of_some _ x))))⟩
end
def iZipG (K : PySem.W.Frag) (ta : TA) : TI := fun σ H R => ta σ H fun vs H1 => ∃ t u a b xs ys, vs = [.ref a, .ref b] ∧ SqK K H1 t a xs ∧ SqK K H1 u b ys ∧ R (ItzG K t u a b) H1
def sqOf : D → Option (Bool × List D)
  | .lst l => some (false, l)
  | .tup l => some (true, l)
  | _ => none
def iZp (pa pb : PTE) : PTA := fun w ρ M q => pa w ρ M fun x M1 => pb w ρ M1 fun y M2 => ∃ t l u m, sqOf x = some (t, l) ∧ sqOf y = some (u, m) ∧ q ((l.zip m).map fun p => .tup [p.1, p.2]) M2
theorem rp_sq {K : PySem.W.Frag} {F : Hp} {d : D} {t : Bool} {l : List D} {v : V} (h : sqOf d = some (t, l)) (r : Rp K F d v) : ∃ a xs, v = .ref a ∧ SqK K F t a xs ∧ RpL K F l xs := by
  cases d with
  | lst l' => cases h; obtain ⟨a, xs, e, h1, h2⟩ := r; exact ⟨a, xs, e, .inl (.inl h1), h2⟩
  | tup l' => cases h; obtain ⟨a, xs, e, h1, h2⟩ := r; exact ⟨a, xs, e, h1, h2⟩
  | _ => cases h
theorem sqk_same {K : PySem.W.Frag} {F F' : Hp} {t : Bool} {a : Addr} {xs : List V} (e : Same F F') (h : SqK K F t a xs) : SqK K F' t a xs := by
  cases t with
  | true => exact same_t e h
  | false => exact same_l e h
section
variable {X : Cx} {W : WX} {tg e e2 : Expr} {ta : TA} {pa pb : PTE} {p pos tpos : Pos} {elts : List Expr} {kk : Nat}
theorem pi_zipG (hg : Gl X "zip") (hm : X.mg "zip" = none) (ha : PA X [e, e2] ta)
    (hs : starEach [e, e2] X.env = (false, eval e X.env) :: starEach [e2] X.env := by rfl) (hpl : (backTo pos (starEach [e2] X.env)).any (·.1) = false := by rfl) :
    PI X (.Tuple elts kk tpos) (.Call (.Name "zip" p) [e, e2] [] pos) (iZipG X.K ta) := by
  refine ⟨fun pins s σ H R I h => ?_⟩
  refine Call_ (ld_blt I hg hm PyProof.Rows.boot_zip (PyProof.Rows.callWith_type1 (thn (ha.run pos pins s σ H _ I h) fun us s1 ⟨vs, H1, I1, r1, q1⟩ => ?_) hs hpl))
  obtain ⟨t, u, a, b, xs, ys, ex, hqx, hqy, q⟩ := q1
  subst ex
  obtain ⟨u1, u2, rfl, e1, e2⟩ := r1.two
  cases (show u1 = .ref a from e1)
  cases (show u2 = .ref b from e2)
  obtain ⟨its, rv, p1, l1⟩ := sq_its I1 hqx
  obtain ⟨its2, rv2, p2, l2⟩ := sq_its I1 hqy
  refine call_zg p1 p2 fun h' hz hTI hTO h1 h2 hk => wpAny_pyIter_zip hz ?_
  have I2 : Inv X pins σ H1 { s1 with heap := h' } := I1.kept (t' := s1.toks) hk
  refine ⟨s1.heap.objs.size + 4, [s1.heap.objs.size + 4, s1.heap.objs.size + 2, s1.heap.objs.size + 3, s1.heap.objs.size, s1.heap.objs.size + 1], _, _, H1, rfl, I2, turn_zipG (PySem.W.ktu_apart s1.heap.objs.size a b l1 l2), ⟨hz, hTI, ⟨_, _, hTO⟩, h1, h2⟩, fun c hcm => ?_, q⟩
  have hle : s1.heap.objs.size ≤ c := by
    rcases five hcm with z | z | z | z | z <;> rw [z]
    · exact Nat.le_add_right _ _
    · exact Nat.le_add_right _ _
    · exact Nat.le_add_right _ _
    · exact Nat.le_refl _
    · exact Nat.le_add_right _ _
  exact I1.fpOk hle (I1.hok.fresh hle)
theorem wk_zipG {K : PySem.W.Frag} {F : Hp} {t u : Bool} {a b : Addr} {xs ys : List V} {l m : List D} (h1 : SqK K F t a xs) (h2 : SqK K F u b ys) (r1 : RpL K F l xs) (r2 : RpL K F m ys) : Wk K (ItzG K t u a b) F ((l.zip m).map fun p => .tup [p.1, p.2]) where
  go := fun g σ ρ M F' O H i A s hi => by
    rw [List.length_map, List.length_zip] at hi
    have e1 := r1.len
    have e2 := r2.len
    have i1 : i < xs.length := by omega
    have i2 : i < ys.length := by omega
    exact ⟨xs, ys, _, _, sqk_same (s.trans A.sub) h1, sqk_same (s.trans A.sub) h2, List.getElem?_eq_getElem i1, List.getElem?_eq_getElem i2⟩
  yl := fun g σ ρ M F' O H i x H' d A s hy hd => by
    obtain ⟨T, x, y, rfl, hT, rfl, f1, f2⟩ := hy
    rw [List.getElem?_map] at hd
    obtain ⟨p, hp, rfl⟩ := Option.map_eq_some_iff.mp hd
    obtain ⟨p1, p2⟩ := p
    obtain ⟨q1, q2⟩ := List.getElem?_zip_eq_some.mp hp
    obtain ⟨x', e1, rx⟩ := r1.get q1
    obtain ⟨y', e2, ry⟩ := r2.get q2
    rw [f1 xs (sqk_same (s.trans A.sub) h1)] at e1
    rw [f2 ys (sqk_same (s.trans A.sub) h2)] at e2
    cases e1
    cases e2
    have sn := same_new (o := .tup [x, y]) (A.f0 hT)
    exact ⟨_, A.lay hT, sn, T, _, rfl, .inl (.inl upd_same), _, _, rfl, Rp.mono (s.trans sn) _ _ rx, _, _, rfl, Rp.mono (s.trans sn) _ _ ry, rfl⟩
  sp := fun g σ ρ M F' O H A s => by
    rw [List.length_map, List.length_zip]
    have e1 := r1.len
    have e2 := r2.len
    exact ⟨xs, ys, sqk_same (s.trans A.sub) h1, sqk_same (s.trans A.sub) h2, by omega⟩
theorem di_zipG (hg : Gl X "zip") (hm : X.mg "zip" = none) (ha : DE X W e pa) (hb : DE X W e2 pb)
    (hs : starEach [e, e2] X.env = (false, eval e X.env) :: starEach [e2] X.env := by rfl) (hs2 : starEach [e2] X.env = (false, eval e2 X.env) :: starEach [] X.env := by rfl) (hpl : (backTo pos (starEach [e2] X.env)).any (·.1) = false := by rfl) :
    DI X W (.Tuple elts kk tpos) (.Call (.Name "zip" p) [e, e2] [] pos) (iZp pa pb) := pi_imp (pi_zipG hg hm (pa_cons ha (pa_cons hb pa_nil hs2) hs) hs hpl) fun σ H R hE => hE.el fun g ρ M F O q w A pr hw k =>
  (.mk A pr hw (fun v H1 F1 O1 M1 x A1 s1 r1 q1 => (.mk A1 q1 (hw.mono s1) (fun v2 H2 F2 O2 M2 y A2 s2 r2 ⟨t, l, u, m, e1, e2, q2⟩ => by
    obtain ⟨a, xs, rfl, h1, rl1⟩ := rp_sq e1 (Rp.mono s2 _ _ r1)
    obtain ⟨b, ys, rfl, h2, rl2⟩ := rp_sq e2 r2
    exact ⟨t, u, a, b, xs, ys, rfl, sqk_same A2.sub h1, sqk_same A2.sub h2, k _ H2 F2 O2 M2 _ A2 (s1.trans s2) (wk_zipG h1 h2 rl1 rl2) q2⟩))))
end
end Px
set_option Elab.async false
set_option linter.all false
set_option maxRecDepth 100000
namespace Px
open PySem PySem.Spec PyProof.Rows L2
theorem gcd_pos' {a b : Int} (h : 0 < b) : 0 < (Int.gcd a b : Int) := by
  have := Int.gcd_pos_iff (a := a) (b := b) |>.mpr (.inr (by omega))
  omega
def lc (a b : Int) : Int := a / g0 a b * b
theorem lc_l {a b : Int} : a ∣ lc a b := by
  unfold lc g0
  obtain ⟨b', eb⟩ := Int.gcd_dvd_right (a := a) (b := b)
  by_cases hz : (Int.gcd a b : Int) = 0
  · rw [hz] at eb
    rw [eb]; simp
  · have e : a / (Int.gcd a b : Int) * b = a * b' := by
      have e2 := Int.ediv_mul_cancel (Int.gcd_dvd_left (a := a) (b := b))
      generalize (Int.gcd a b : Int) = g at *
      rw [eb, ← Int.mul_assoc, e2]
    rw [e]
    exact Int.dvd_mul_right ..
theorem lc_r {a b : Int} : b ∣ lc a b := Int.dvd_mul_left ..
theorem lc_pos {a b : Int} (ha : 0 < a) (hb : 0 < b) : 0 < lc a b := by
  unfold lc g0
  refine Int.mul_pos ?_ hb
  have gp := gcd_pos' (a := a) hb
  have e := Int.ediv_mul_cancel (Int.gcd_dvd_left (a := a) (b := b))
  by_cases c : 0 < a / (Int.gcd a b : Int)
  · exact c
  · have : a / (Int.gcd a b : Int) * (Int.gcd a b : Int) ≤ 0 := Int.mul_nonpos_of_nonpos_of_nonneg (by omega) (by omega)
    omega
theorem lc_dvd {a b m : Int} (ha : 0 < a) (hb : 0 < b) (h1 : a ∣ m) (h2 : b ∣ m) : lc a b ∣ m := by
  have gp := gcd_pos' (a := a) hb
  have e := Int.ediv_mul_cancel (Int.gcd_dvd_left (a := a) (b := b))
  have e2 := Int.ediv_mul_cancel (Int.gcd_dvd_right (a := a) (b := b))
  have hl : lc a b = (Int.lcm a b : Int) := by
    have h := Int.gcd_mul_lcm a b
    have h' : (Int.gcd a b : Int) * (Int.lcm a b : Int) = a * b := by
      have hh : ((Int.gcd a b * Int.lcm a b : Nat) : Int) = ((a * b).natAbs : Int) := by rw [h, Int.natAbs_mul]
      rw [Int.natCast_mul] at hh
      rw [hh]
      have := Int.mul_pos ha hb
      omega
    refine Int.eq_of_mul_eq_mul_left (show (Int.gcd a b : Int) ≠ 0 by omega) ?_
    rw [h']
    unfold lc g0
    rw [← Int.mul_assoc, Int.mul_comm (Int.gcd a b : Int), e]
  rw [hl]
  have h3 : m.natAbs = m.natAbs := rfl
  have : Int.lcm a b ∣ m.natAbs := Nat.lcm_dvd (Int.natAbs_dvd_natAbs.mpr h1) (Int.natAbs_dvd_natAbs.mpr h2)
  exact Int.ofNat_dvd_left.mpr this
def lcmL (ns : List Int) : Int := ns.foldl lc 1
abbrev PosL (ns : List Int) : Prop := ∀ n ∈ ns, (0 : Int) < n
theorem fold_lc : ∀ (ns : List Int) (a : Int), 0 < a → PosL ns → 0 < ns.foldl lc a ∧ ∀ m, ns.foldl lc a ∣ m ↔ a ∣ m ∧ ∀ n ∈ ns, n ∣ m
  | [], a, h, _ => ⟨h, fun m => ⟨fun z => ⟨z, fun _ q => nomatch q⟩, fun z => z.1⟩⟩
  | n :: r, a, h, hp => by
    have hn : 0 < n := hp n List.mem_cons_self
    obtain ⟨h1, h2⟩ := fold_lc r (lc a n) (lc_pos h hn) fun m q => hp m (List.mem_cons_of_mem _ q)
    refine ⟨h1, fun m => ?_⟩
    rw [List.foldl_cons, h2]
    constructor
    · rintro ⟨z, q⟩
      refine ⟨Int.dvd_trans lc_l z, fun x hx => ?_⟩
      rcases List.mem_cons.mp hx with rfl | hx
      · exact Int.dvd_trans lc_r z
      · exact q x hx
    · rintro ⟨z, q⟩
      exact ⟨lc_dvd h hn z (q n List.mem_cons_self), fun x hx => q x (List.mem_cons_of_mem _ hx)⟩
theorem lcmL_pos {ns : List Int} (h : PosL ns) : 0 < lcmL ns := (fold_lc ns 1 (by decide) h).1
theorem lcmL_dvd {ns : List Int} (h : PosL ns) {m : Int} : lcmL ns ∣ m ↔ ∀ n ∈ ns, n ∣ m := by
  have := (fold_lc ns 1 (by decide) h).2 m
  unfold lcmL
  rw [this]
  exact ⟨fun z => z.2, fun z => ⟨Int.one_dvd m, z⟩⟩
theorem lcmL_self {ns : List Int} (h : PosL ns) {n : Int} (hn : n ∈ ns) : n ∣ lcmL ns := (lcmL_dvd h).mp (Int.dvd_refl _) n hn
theorem lcmL_le {ns ms : List Int} (h : PosL ns) (h' : PosL ms) (s : ∀ n ∈ ns, n ∈ ms) : lcmL ns ≤ lcmL ms :=
  Int.le_of_dvd (lcmL_pos h') ((lcmL_dvd h).mpr fun n q => lcmL_self h' (s n q))
theorem lcmL_bound : ∀ {ns : List Int} {k : Nat}, (∀ n ∈ ns, (1 : Int) ≤ n ∧ n ≤ 1000) → ns.length ≤ k → lcmL ns ≤ 1000 ^ k := by
  have key : ∀ (ns : List Int) (a : Int) (j : Nat), 0 < a → a ≤ 1000 ^ j → (∀ n ∈ ns, (1 : Int) ≤ n ∧ n ≤ 1000) → ns.foldl lc a ≤ 1000 ^ (j + ns.length) := by
    intro ns
    induction ns with
    | nil => intro a j _ h _; exact h
    | cons n r ih =>
      intro a j h0 h hp
      obtain ⟨h1, h2⟩ := hp n List.mem_cons_self
      have e : lc a n ≤ 1000 ^ (j + 1) := by
        refine Int.le_trans (Int.le_of_dvd (Int.mul_pos h0 (by omega)) (lc_dvd h0 (by omega) (Int.dvd_mul_right ..) (Int.dvd_mul_left ..))) ?_
        rw [Int.pow_succ]
        exact Int.mul_le_mul h h2 (by omega) (Int.pow_nonneg (by decide))
      have := ih (lc a n) (j + 1) (lc_pos h0 (by omega)) e fun m q => hp m (List.mem_cons_of_mem _ q)
      rw [List.foldl_cons, List.length_cons, show j + (r.length + 1) = j + 1 + r.length by omega]
      exact this
  intro ns k h hk
  have h1 := key ns 1 0 (by decide) (by decide) h
  rw [Nat.zero_add] at h1
  refine Int.le_trans h1 ?_
  have : ∀ d a : Nat, (1000 : Int) ^ a ≤ 1000 ^ (a + d) := by
    intro d
    induction d with
    | zero => intro a; exact Int.le_refl _
    | succ d ih =>
      intro a
      refine Int.le_trans (ih a) ?_
      rw [← Nat.add_assoc, Int.pow_succ]
      have : (0 : Int) ≤ 1000 ^ (a + d) := Int.pow_nonneg (by decide)
      omega
  have := this (k - ns.length) ns.length
  rw [show ns.length + (k - ns.length) = k by omega] at this
  exact this
def sel : List Bool → List Int → List Int
  | b :: m, h :: r => if b then h :: sel m r else sel m r
  | _, _ => []
def nots (m : List Bool) : List Bool := m.map (!·)
theorem sel_sub : ∀ {m : List Bool} {hs : List Int} {h : Int}, h ∈ sel m hs → h ∈ hs
  | [], _, _, q => by simp [sel] at q
  | _ :: _, [], _, q => by simp [sel] at q
  | b :: m, x :: r, h, q => by
    unfold sel at q
    cases b with
    | true =>
      rcases List.mem_cons.mp q with rfl | q
      · exact List.mem_cons_self
      · exact List.mem_cons_of_mem _ (sel_sub q)
    | false => exact List.mem_cons_of_mem _ (sel_sub q)
theorem sel_pos {m : List Bool} {hs : List Int} (h : PosL hs) : PosL (sel m hs) := fun n q => h n (sel_sub q)
theorem sel_len : ∀ {m : List Bool} {hs : List Int}, (sel m hs).length ≤ hs.length
  | [], _ => by simp [sel]
  | _ :: _, [] => by simp [sel]
  | b :: m, x :: r => by
    have := sel_len (m := m) (hs := r)
    unfold sel
    split <;> simp <;> omega
def Spl (hs : List Int) (a b : Int) : Prop := ∃ m : List Bool, m.length = hs.length ∧ sel m hs ≠ [] ∧ sel (nots m) hs ≠ [] ∧ a = lcmL (sel m hs) ∧ b = lcmL (sel (nots m) hs)
theorem Spl.pos {hs : List Int} (hp : PosL hs) {a b : Int} (h : Spl hs a b) : 0 < a ∧ 0 < b := by
  obtain ⟨m, h1, h2, h3, h4, h5⟩ := h
  rw [h4, h5]
  exact ⟨lcmL_pos (sel_pos hp), lcmL_pos (sel_pos hp)⟩
theorem Spl.le {hs : List Int} (hp : PosL hs) {a b : Int} (h : Spl hs a b) : a ≤ lcmL hs ∧ b ≤ lcmL hs := by
  obtain ⟨m, h1, h2, h3, h4, h5⟩ := h
  rw [h4, h5]
  exact ⟨lcmL_le (sel_pos hp) hp fun _ => sel_sub, lcmL_le (sel_pos hp) hp fun _ => sel_sub⟩
def isSeq (d : D) (ns : List Int) : Prop := d = .lst (ns.map .int) ∨ d = .tup (ns.map .int)
def HsOk (hs : List Int) : Prop := hs ≠ [] ∧ hs.length ≤ 6 ∧ ∀ n ∈ hs, (1 : Int) ≤ n ∧ n ≤ 1000
def SmOk (hs : List Int) : Prop := hs.length ≤ 6 ∧ ∀ n ∈ hs, (1 : Int) ≤ n ∧ n ≤ 1000
theorem HsOk.sm {hs : List Int} (h : HsOk hs) : SmOk hs := h.2
theorem SmOk.pos {hs : List Int} (h : SmOk hs) : PosL hs := fun n q => by have := h.2 n q; omega
theorem SmOk.sel {hs : List Int} (h : SmOk hs) (m : List Bool) : SmOk (sel m hs) := ⟨Nat.le_trans sel_len h.1, fun n q => h.2 n (sel_sub q)⟩
theorem SmOk.lcm {hs : List Int} (h : SmOk hs) : 0 < lcmL hs ∧ lcmL hs ≤ 10 ^ 18 := ⟨lcmL_pos h.pos, Int.le_trans (lcmL_bound h.2 h.1) (by decide)⟩
def sp_need_halves (C : Cl) : PSp := fun ds M q _ => ar1 ds fun d => ∃ hs, isSeq d hs ∧ HsOk hs ∧ q .non M
def rd_need_halves (C : Cl) : PTS := (dSeq (dIfS (dOr (dNot (dTst (dB1 (fIsi2 "list" "tuple") (dVar 0)))) (dTst (dOp fEq (dB1 fLen (dVar 0)) (dC (.int 0))))) dNeverS dNext)
    (dFor (iEA (dVar 0)) (gTp 2 (gsCons (gNm 1) (gsCons (gNm 2) gsNil))) (dIfS (dOr (dTst (dOp fEq (dVar 1) (dC (.int 6)))) (dNot (dTst (dCall (sp_is_half C) [] (dCons (dVar 2) dNil))))) dNeverS dNext)))
theorem eqI (i j : Int) : eqD (.int i) (.int j) = decide (i = j) := rfl
theorem btw_half {n : Int} (h : 1 ≤ n ∧ n ≤ 1000) : btwD (.int n) 1 1000 = true := by
  show (decide (1 ≤ n) && decide (n ≤ 1000)) = true
  rw [decide_eq_true h.1, decide_eq_true h.2]; rfl
theorem sh_need_halves (C : Cl) : Shows (sp_need_halves C) 3 (rd_need_halves C) := by
  intro ds M q e h
  obtain ⟨d, rfl, hs, hd, ⟨hh0, hh1, hh2⟩, hq⟩ := ar1_of h
  have hlen : (hs.map D.int).length = hs.length := List.length_map ..
  have hne : hs.length ≠ 0 := fun z => hh0 (List.eq_nil_of_length_eq_zero z)
  have body : ∀ x1 x2 : Option Sv, forR (gTp 2 (gsCons (gNm 1) (gsCons (gNm 2) gsNil))) (dIfS (dOr (dTst (dOp fEq (dVar 1) (dC (.int 6)))) (dNot (dTst (dCall (sp_is_half C) [] (dCons (dVar 2) dNil))))) dNeverS dNext)
      (fun cls fs _ M' => ∃ M2, MLe M2 M' ∧ e cls fs M2) (enumD 0 (hs.map .int)) { nx := fun _ M' => ∃ M2, MLe M2 M' ∧ q .non M2, rt := fun d M' => ∃ M2, MLe M2 M' ∧ q d M2 } [some (.val d), x1, x2] M := by
    intro x1 x2
    refine forR_ix (fun _ ρ M' => M' = M ∧ ∃ (x1 x2 : Option Sv), ρ = [some (.val d), x1, x2]) _ 0 ?_ ?_ _ _ ⟨rfl, _, _, rfl⟩
    · rintro i x hx F hF ρ M' ⟨rfl, x1, x2, rfl⟩
      rw [enumD_get, List.getElem?_map] at hx
      obtain ⟨n, hn⟩ : ∃ n, hs[i]? = some n := by
        cases c : hs[i]? with
        | none => rw [c] at hx; cases hx
        | some n => exact ⟨n, rfl⟩
      rw [hn] at hx
      obtain ⟨hi, e1⟩ := List.getElem?_eq_some_iff.mp hn
      have hm := hh2 n (e1 ▸ List.getElem_mem hi)
      cases hx
      refine ⟨rfl, rfl, itF (by rw [eqI]; exact decide_eq_false (by omega)) ⟨rfl, itF (by rw [btw_half hm]; rfl) (hF _ _ ⟨rfl, _, _, rfl⟩)⟩⟩
    · rintro ρ M' ⟨rfl, x1, x2, rfl⟩
      exact ⟨M', MLe.refl _, hq⟩
  rcases hd with rfl | rfl
  · exact ⟨rfl, itF (by rw [eqI, hlen]; exact decide_eq_false (by omega)) (body _ _)⟩
  · exact ⟨rfl, itF (by rw [eqI, hlen]; exact decide_eq_false (by omega)) (body _ _)⟩
end Px
set_option Elab.async false
set_option linter.all false
set_option maxRecDepth 100000
namespace Px
open PySem PySem.Spec PyProof.Rows L2
theorem fMin_ints {n : Int} {r : List Int} {k : D → Prop} (h : k (.int (minL n r))) : fMin (.lst ((n :: r).map .int)) k := by
  show (match intsOf ((n :: r).map .int) with | some (n :: r) => k (.int (minL n r)) | _ => False)
  rw [intsOf_map]
  exact h
def NmOk (i : Int) : Prop := -(10 ^ 40) ≤ i ∧ i ≤ 10 ^ 40
theorem NmOk.sz {i : Int} (h : NmOk i) : SzB 140 i := SzB.of (by have := h.1; omega) (by have := h.2; omega)
end Px
set_option Elab.async false
set_option linter.all false
set_option maxRecDepth 100000
namespace Px
open PySem PySem.Spec PyProof.Rows L2
theorem mulx_small {i j : Int} (h0 : -(10 ^ 60) ≤ i) (h1 : i ≤ 10 ^ 60) (h2 : -(10 ^ 60) ≤ j) (h3 : j ≤ 10 ^ 60) : CMulX i j :=
  cmul_of (a := 300) (b := 300) (Nat.lt_of_le_of_lt (show i.natAbs ≤ 10 ^ 60 by omega) (by decide)) (Nat.lt_of_le_of_lt (show j.natAbs ≤ 10 ^ 60 by omega) (by decide)) (by decide)
theorem Bd.sm {n : Int} (h0 : 0 ≤ n) (h : n ≤ 10 ^ 60) : Bd n := Bd.small (by omega) (Int.le_trans h (by decide))
def Sz (i : Int) : Prop := -(10 ^ 60) ≤ i ∧ i ≤ 10 ^ 60
theorem Sz.mul {i j : Int} (h : Sz i) (h' : Sz j) : CMulX i j := mulx_small h.1 h.2 h'.1 h'.2
theorem Sz.of {i : Int} (h : -(10 ^ 59) ≤ i) (h' : i ≤ 10 ^ 59) : Sz i := ⟨by omega, by omega⟩
theorem Sz.div {i : Int} (h : Sz i) (h0 : 0 < i) (j : Int) : CDivW j i := (Bd.sm (by omega) h.2).div h0 j
def RtOk (a b : Int) : Prop := 0 < a ∧ a ≤ 10 ^ 30 ∧ 0 < b ∧ b ≤ 10 ^ 30
theorem RtOk.sa {a b : Int} (h : RtOk a b) : Sz a := ⟨by have := h.1; omega, by have := h.2.1; omega⟩
theorem RtOk.sb {a b : Int} (h : RtOk a b) : Sz b := ⟨by have := h.2.2.1; omega, by have := h.2.2.2; omega⟩
def EnOk (i : Int) : Prop := -5000 ≤ i ∧ i ≤ 5000
theorem EnOk.sz {i : Int} (h : EnOk i) : Sz i := ⟨by have := h.1; omega, by have := h.2; omega⟩
end Px
set_option Elab.async false
set_option linter.all false
set_option maxRecDepth 100000
namespace Px
open PySem PySem.Spec PyProof.Rows L2
theorem okD_ints {k : Nat} (ns : List Int) : (ns.map D.int).all (okD k) = true := by
  rw [List.all_map, List.all_eq_true]
  intro x _
  cases k <;> rfl
theorem okD_il (ns : List Int) : okD 50 (.lst (ns.map .int)) = true := okD_ints (k := 49) ns
end Px
set_option Elab.async false
set_option linter.all false
set_option maxRecDepth 100000
namespace Px
open PySem PySem.Spec PyProof.Rows L2
end Px
set_option Elab.async false
set_option linter.all false
set_option maxRecDepth 100000
set_option exponentiation.threshold 3000
namespace Px
open PySem PySem.Spec PyProof.Rows L2
def WdOk (ns : List Int) : Prop := ns.length ≤ 100 ∧ ∀ n ∈ ns, (1 : Int) ≤ n ∧ n ≤ 1000000
theorem WdOk.pos {ns : List Int} (h : WdOk ns) : PosL ns := fun n q => by have := h.2 n q; omega
theorem lcmL_boundW {c : Int} (hc : 1 ≤ c) : ∀ {ns : List Int}, (∀ n ∈ ns, (1 : Int) ≤ n ∧ n ≤ c) → lcmL ns ≤ c ^ ns.length := by
  have key : ∀ (ns : List Int) (a : Int) (j : Nat), 0 < a → a ≤ c ^ j → (∀ n ∈ ns, (1 : Int) ≤ n ∧ n ≤ c) → ns.foldl lc a ≤ c ^ (j + ns.length) := by
    intro ns
    induction ns with
    | nil => intro a j _ h _; exact h
    | cons n r ih =>
      intro a j h0 h hp
      obtain ⟨h1, h2⟩ := hp n List.mem_cons_self
      have e : lc a n ≤ c ^ (j + 1) := by
        refine Int.le_trans (Int.le_of_dvd (Int.mul_pos h0 (by omega)) (lc_dvd h0 (by omega) (Int.dvd_mul_right ..) (Int.dvd_mul_left ..))) ?_
        rw [Int.pow_succ]
        exact Int.mul_le_mul h h2 (by omega) (Int.pow_nonneg (by omega))
      have := ih (lc a n) (j + 1) (lc_pos h0 (by omega)) e fun m q => hp m (List.mem_cons_of_mem _ q)
      rw [List.foldl_cons, List.length_cons, show j + (r.length + 1) = j + 1 + r.length by omega]
      exact this
  intro ns h
  have h1 := key ns 1 0 (by decide) (by simp) h
  rwa [Nat.zero_add] at h1
theorem pow_mono1 {c : Int} (hc : 1 ≤ c) (a d : Nat) : c ^ a ≤ c ^ (a + d) := by
  induction d with
  | zero => exact Int.le_refl _
  | succ d ih =>
    rw [← Nat.add_assoc, Int.pow_succ]
    have p : 0 ≤ c ^ (a + d) := Int.pow_nonneg (by omega)
    have := Int.mul_le_mul_of_nonneg_left hc p
    rw [Int.mul_one] at this
    exact Int.le_trans ih this
theorem WdOk.lcm {ns : List Int} (h : WdOk ns) : 0 < lcmL ns ∧ lcmL ns < 2 ^ 2000 := by
  refine ⟨lcmL_pos h.pos, ?_⟩
  have h1 := lcmL_boundW (by decide) h.2
  have h2 := pow_mono1 (c := 1000000) (by decide) ns.length (100 - ns.length)
  have e : ns.length + (100 - ns.length) = 100 := by have := h.1; omega
  rw [e] at h2
  exact Int.lt_of_le_of_lt (Int.le_trans h1 h2) (by decide)
end Px
set_option Elab.async false
set_option linter.all false
set_option maxRecDepth 100000
namespace Px
open PySem PySem.Spec PyProof.Rows L2
theorem toSp_wk {K : PySem.W.Frag} {n : Nat} {sp sp' : PSp} (h : ∀ ds M q e, sp' ds M q e → sp ds M q e) {vs : List V} {H : Hp} {Q : VK} {E : XK} (z : toSp K n sp' vs H Q E) : toSp K n sp vs H Q E := by
  obtain ⟨g, F, M, O, ds, q, e, h1, h2, h3, h4, h5⟩ := z
  exact ⟨g, F, M, O, ds, q, e, h1, h2, h3, h _ _ _ _ h4, h5⟩
theorem FnG.wk {P : Program} {w : World} {K : PySem.W.Frag} {mg : Str → Option Value} {base : Heap} {k n : Nat} {f : Addr} {fd : FuncData} {ps : List Str} {sp sp' : PSp} (Fg : FnG P w K mg base k f fd ps (toSp K n sp)) (h : ∀ ds M q e, sp' ds M q e → sp ds M q e) :
    FnG P w K mg base k f fd ps (toSp K n sp') := ⟨fun vs H Q E z => Fg.len vs H Q E (toSp_wk h z), fun A o s H a us vs Q E r g e b v z => Fg.run A o s H a us vs Q E r g e b v (toSp_wk h z)⟩
end Px
set_option Elab.async false
set_option linter.all false
set_option maxRecDepth 100000
namespace Px
open PySem PySem.Spec PyProof.Rows L2
def ltr (c : D) : Bool := match c with
  | .str z => !(Builtin.Str.occurrences "abcdefghijklmnopqrstuvwxyz" z 0 ("abcdefghijklmnopqrstuvwxyz" : Str).length 1).isEmpty
  | _ => false
def isWordD (d : D) : Bool := match d with
  | .str s => decide (1 ≤ s.length) && decide (s.length ≤ 8) && (chS s).all ltr
  | _ => false
end Px
set_option Elab.async false
set_option linter.all false
set_option maxRecDepth 100000
namespace Px
open PySem PySem.Spec PyProof.Rows L2
def ascD : Int → Int → List D → Bool
  | _, _, [] => true
  | last, half, d :: r => btwD d (last + 1) half && (match d with | .int i => ascD i half r | _ => false)
def areEndsD (d : D) (half : Int) : Bool := match d with
  | .tup l => decide (l.length ≤ 12) && ascD (-1) half l
  | _ => false
end Px
set_option Elab.async false
set_option linter.all false
set_option maxRecDepth 100000
namespace Px
open PySem PySem.Spec PyProof.Rows L2
theorem at0 {a : D} {r : List D} : atI (a :: r) (0 : Int) = some a := atI_nat (j := 0) rfl
theorem at1 {a b : D} {r : List D} : atI (a :: b :: r) (1 : Int) = some b := atI_nat (j := 1) rfl
def isTellD : List D → Bool
  | [.str s, x] => decide (s = "tell") && isWordD x
  | _ => false
def isLookD (many : Int) : List D → Bool
  | [.str s, .int h, .tup e, .tup g] => decide (s = "look") && (btwD (.int h) 1 1000 && (areEndsD (.tup e) h && (decide (g.length = 2 * e.length + 1) && g.all fun d => btwD d 0 (many - 1))))
  | _ => false
def isRowD (d : D) (many : Int) : Bool := match d with
  | .tup l => isTellD l || isLookD many l
  | _ => false
theorem SOk.len {s : Str} (h : SOk s) : s.length ≤ 211 := by
  have := h.2.2
  simp only [PyData.weight] at this
  exact this
theorem Gd.str {L B n : Nat} {s : Str} (h : Gd L B n (.str s)) : SOk s := by cases n <;> (simp only [Gd] at h; exact h)
end Px
set_option Elab.async false
set_option linter.all false
set_option maxRecDepth 100000
namespace Px
def fo (h z : Int) : Int := if 4 * h - z % (4 * h) < z % (4 * h) then 4 * h - z % (4 * h) else z % (4 * h)
def Per (d : Int) (f : Int → Bool) : Prop := 0 < d ∧ (∀ z, f (z + 4 * d) = f z) ∧ ∀ z, f (-z) = f z
theorem Per.mulN {d : Int} {f : Int → Bool} (h : Per d f) : ∀ (k : Nat) (z : Int), f (z + 4 * d * k) = f z
  | 0, z => by rw [show z + 4 * d * ((0 : Nat) : Int) = z by simp]
  | k + 1, z => by
    have e : z + 4 * d * ((k + 1 : Nat) : Int) = (z + 4 * d * k) + 4 * d := by
      rw [Int.natCast_succ, Int.mul_add]; omega
    rw [e, h.2.1, Per.mulN h k z]
theorem Per.mul {d : Int} {f : Int → Bool} (h : Per d f) (k z : Int) : f (z + 4 * d * k) = f z := by
  rcases Int.le_total 0 k with c | c
  · have e : k = (k.toNat : Int) := by omega
    rw [e]; exact h.mulN _ z
  · have e : k = -((-k).toNat : Int) := by omega
    have := h.mulN (-k).toNat (z + 4 * d * k)
    rw [← this]
    congr 1
    have e2 : ((-k).toNat : Int) = -k := by omega
    rw [e2, Int.mul_neg]; omega
theorem fo_cases (h z : Int) : (∃ k, fo h z = z + 4 * h * k) ∨ ∃ k, fo h z = -(z + 4 * h * k) := by
  have e := Int.emod_def z (4 * h)
  unfold fo
  split
  · right
    refine ⟨-(z / (4 * h)) - 1, ?_⟩
    rw [e, Int.mul_sub, Int.mul_neg]; omega
  · left
    refine ⟨-(z / (4 * h)), ?_⟩
    rw [e, Int.mul_neg]; omega
theorem Per.fo {d : Int} {f : Int → Bool} (h : Per d f) (z : Int) : f (fo d z) = f z := by
  rcases fo_cases d z with ⟨k, e⟩ | ⟨k, e⟩
  · rw [e, h.mul]
  · rw [e, h.2.2, h.mul]
theorem fo_nn {h z : Int} (hh : 0 < h) : 0 ≤ fo h z := by
  have := Int.emod_nonneg z (show 4 * h ≠ 0 by omega)
  have := Int.emod_lt_of_pos z (show 0 < 4 * h by omega)
  unfold fo; split <;> omega
theorem fo_le {h z : Int} (hh : 0 < h) : fo h z ≤ 2 * h := by
  unfold fo; split <;> omega
theorem Per.ext {h : Int} {f g : Int → Bool} (hf : Per h f) (hg : Per h g) (e : ∀ z, 0 ≤ z → z ≤ 2 * h → f z = g z) : f = g := funext fun z => by
  rw [← hf.fo z, ← hg.fo z]
  exact e _ (fo_nn hf.1) (fo_le hf.1)
theorem Per.up {d h : Int} {f : Int → Bool} (hf : Per d f) (h0 : 0 < h) (hd : d ∣ h) : Per h f := ⟨h0, fun z => by
  obtain ⟨k, rfl⟩ := hd
  rw [← Int.mul_assoc]
  exact hf.mul k z, hf.2.2⟩
def Least (d : Int) (f : Int → Bool) : Prop := Per d f ∧ ∀ e, Per e f → d ≤ e
theorem least_ex {h : Int} {f : Int → Bool} (hf : Per h f) : ∃ d, Least d f := by
  have key : ∀ (n : Nat), (∃ d, Per d f ∧ d.toNat ≤ n) → ∃ d, Least d f := by
    intro n
    induction n with
    | zero => rintro ⟨d, hd, hn⟩; have := hd.1; omega
    | succ n ih =>
      rintro ⟨d, hd, hn⟩
      by_cases c : ∃ e, Per e f ∧ e.toNat ≤ n
      · exact ih c
      · refine ⟨d, hd, fun e he => ?_⟩
        by_cases c2 : d ≤ e
        · exact c2
        · exfalso
          have := hd.1
          have := he.1
          exact c ⟨e, he, by omega⟩
  exact key _ ⟨h, hf, Nat.le_refl _⟩
open Classical in
noncomputable def lh (f : Int → Bool) : Int := if h : ∃ d, Least d f then Classical.choose h else 1
theorem lh_is {h : Int} {f : Int → Bool} (hf : Per h f) : Least (lh f) f := by
  have e := least_ex hf
  unfold lh
  rw [dif_pos e]
  exact Classical.choose_spec e
theorem lh_per {h : Int} {f : Int → Bool} (hf : Per h f) : Per (lh f) f := (lh_is hf).1
def Pri (q : Int) : Prop := 2 ≤ q ∧ ∀ r, 2 ≤ r → r ∣ q → r = q
end Px
set_option Elab.async false
set_option linter.all false
set_option maxRecDepth 100000
namespace Px
def stp (s : List (Int × Int) × Option Int) (i : Int) (b : Bool) : List (Int × Int) × Option Int := match b, s.2 with
  | true, none => (s.1, some i)
  | false, some k => (s.1 ++ [(k, i - 1)], none)
  | _, _ => s
def rs (f : Int → Bool) : Nat → List (Int × Int) × Option Int
  | 0 => ([], none)
  | n + 1 => stp (rs f n) n (f n)
def runs (f : Int → Bool) (n : Nat) : List (Int × Int) := (stp (rs f n) n false).1
def SwI (ss : List (Int × Int)) (z : Int) (k : Nat) (last : Int) : Prop := k ≤ ss.length ∧ (∀ i p, i < k → ss[i]? = some p → p.1 ≤ z ∧ p.2 ≤ last) ∧ (last = -1 ∨ ∃ i p, i < k ∧ ss[i]? = some p ∧ p.2 = last)
theorem SwI.up {ss : List (Int × Int)} {z y : Int} {k : Nat} {last : Int} (h : SwI ss z k last) (c : z ≤ y) : SwI ss y k last := ⟨h.1, fun i p hi e => by have := h.2.1 i p hi e; omega, h.2.2⟩
end Px
set_option Elab.async false
set_option linter.all false
set_option maxRecDepth 100000
namespace Px
open PySem PySem.Spec PyProof.Rows L2
theorem MLe.trans {M1 M2 M3 : Mm} (h : MLe M1 M2) (k : MLe M2 M3) : MLe M1 M3 := fun a mo e => k a mo (h a mo e)
theorem tk_of {n : Int} (h : 0 < n) (h' : n ≤ 10 ^ 20) : 0 < n ∧ n.natAbs.log2 < 9000 := ⟨h, SzB.log (m := 70) (SzB.of (by omega) (by omega))⟩
theorem dct_at {M : Mm} {c : Addr} {kvs : List (D × D)} {f : Addr → List (D × D) → Prop} (hM : M c = some (.dct kvs)) (h : f c kvs) : asDct (.raw (.ref c)) M f := by
  show (match M c with | some (.dct kvs) => f c kvs | _ => False)
  rw [hM]; exact h
end Px
set_option Elab.async false
set_option linter.all false
set_option maxRecDepth 100000
namespace Px
open PySem PySem.Spec PyProof.Rows L2
end Px
set_option Elab.async false
set_option linter.all false
set_option maxRecDepth 100000
namespace Px
open PySem PySem.Spec PyProof.Rows L2
def pcD (p : Int × Int) : D := .tup [.int (p.1 / 2), .bl (decide (p.1 % 2 = 0)), .int ((p.2 + 1) / 2), .bl (decide (p.2 % 2 = 0))]
theorem rngD_len {lo : Int} {n : Nat} : (rngD lo n).length = n := by unfold rngD; rw [List.length_map, List.length_range]
theorem p200 : (10 : Int) ^ 40 < 2 ^ 200 := by decide
theorem mul_small {i j : Int} (h0 : -1000000000 ≤ i) (h1 : i ≤ 1000000000) (h2 : -(10 ^ 40) ≤ j) (h3 : j ≤ 10 ^ 40) : CMulX i j :=
  have z := p200
  (SzB.of (n := 40) (i := i) (by omega) (by omega)).mulX (SzB.of (n := 200) (i := j) (by omega) (by omega)) (by decide)
end Px
set_option Elab.async false
set_option linter.all false
set_option maxRecDepth 100000
namespace Px
open PySem PySem.Spec PyProof.Rows L2
section
variable {X : Cx} {W : WX} {pb : PTE}
end
end Px
set_option Elab.async false
set_option linter.all false
set_option maxRecDepth 100000
namespace Px
open PySem PySem.Spec PyProof.Rows L2
def pcsD (sp : List (Int × Int)) : List D := sp.map pcD
end Px
set_option Elab.async false
set_option linter.all false
set_option maxRecDepth 100000
namespace Px
open PySem PySem.Spec PyProof.Rows L2
theorem compR_ong {α : Type} {gd : PTG} {tt : PTT} {te : PTE} {ρ : Rho} {M : Mm} {q : List D → Mm → Prop} (c : α → D) (fm : α → Option D) : ∀ (xs : List α) (acc : List D),
    (∀ x ∈ xs, ∀ (kt : D → Mm → Prop) (kf : Mm → Prop), (match fm x with | some y => kt y M | none => kf M) → gd (c x) ρ fun ρ' => tt w0 ρ' M fun b M1 => if b = true then te w0 ρ' M1 kt else kf M1) →
    acc.length + xs.length ≤ 1000000 → q (acc ++ xs.filterMap fm) M → compR gd tt te ρ (xs.map c) acc M q
  | [], acc, _, _, h => by
    have h : q (acc ++ []) M := h
    rw [List.append_nil] at h
    exact h
  | x :: r, acc, hb, hl, h => by
    have hl : acc.length + (r.length + 1) ≤ 1000000 := hl
    refine hb x List.mem_cons_self _ _ ?_
    rw [List.filterMap_cons] at h
    cases e : fm x with
    | some y =>
      rw [e] at h
      refine ⟨by omega, compR_ong c fm r (acc ++ [y]) (fun d' h' => hb d' (List.mem_cons_of_mem _ h')) (by rw [List.length_append, List.length_singleton]; omega) ?_⟩
      rw [List.append_assoc]
      exact h
    | none =>
      rw [e] at h
      exact compR_ong c fm r acc (fun d' h' => hb d' (List.mem_cons_of_mem _ h')) (by omega) h
theorem compR_on {α : Type} {gd : PTG} {tt : PTT} {te : PTE} {ρ : Rho} {M : Mm} {q : List D → Mm → Prop} (c f : α → D) (xs : List α)
    (hb : ∀ x ∈ xs, ∀ (kt : D → Mm → Prop) (kf : Mm → Prop), kt (f x) M → gd (c x) ρ fun ρ' => tt w0 ρ' M fun b M1 => if b = true then te w0 ρ' M1 kt else kf M1) (hl : xs.length ≤ 1000000)
    (h : q (xs.map f) M) : compR gd tt te ρ (xs.map c) [] M q := by
  refine compR_ong c (fun x => some (f x)) xs [] (fun x hx kt kf k => hb x hx kt kf k) (by simpa using hl) ?_
  rw [List.nil_append, show xs.filterMap (fun d => some (f d)) = xs.map f by rw [← List.filterMap_eq_map]; rfl]
  exact h
theorem compR_sel {α : Type} {gd : PTG} {tt : PTT} {te : PTE} {ρ : Rho} {M : Mm} {q : List D → Mm → Prop} (c f : α → D) (p : α → Bool) (xs : List α)
    (hb : ∀ x ∈ xs, ∀ (kt : D → Mm → Prop) (kf : Mm → Prop), (if p x = true then kt (f x) M else kf M) → gd (c x) ρ fun ρ' => tt w0 ρ' M fun b M1 => if b = true then te w0 ρ' M1 kt else kf M1) (hl : xs.length ≤ 1000000)
    (h : q ((xs.filter p).map f) M) : compR gd tt te ρ (xs.map c) [] M q := by
  refine compR_ong c (fun x => if p x = true then some (f x) else none) xs [] (fun x hx kt kf k => hb x hx kt kf ?_) (by simpa using hl) ?_
  · by_cases c : p x = true
    · rw [if_pos c] at k ⊢; exact k
    · rw [if_neg c] at k ⊢; exact k
  · have e : xs.filterMap (fun x => if p x = true then some (f x) else none) = (xs.filter p).map f := by
      clear h hl hb
      induction xs with
      | nil => rfl
      | cons d r ih => rw [List.filterMap_cons, List.filter_cons, ih]; by_cases c : p d = true <;> simp [c]
    rw [List.nil_append, e]
    exact h
end Px
set_option Elab.async false
set_option linter.all false
set_option maxRecDepth 100000
namespace Px
open PySem PySem.Spec PyProof.Rows L2
def AllPri (n : Int) (ps : List Int) : Prop := (∀ q, Pri q → q ∣ n → q ∈ ps) ∧ ∀ p ∈ ps, 2 ≤ p ∧ p ≤ n
structure PrI (n left p : Int) (ps : List Int) : Prop where
  l0 : 1 ≤ left
  ln : left ∣ n
  p0 : 2 ≤ p
  all : ∀ q, Pri q → q ∣ n → q ∈ ps ∨ q ∣ left
  least : ∀ q, Pri q → q ∣ left → p ≤ q
  two : ∀ x ∈ ps, 2 ≤ x ∧ x ≤ n
  len : (ps.length : Int) ≤ p - 2
theorem PrI.start {n : Int} (h : 1 ≤ n) : PrI n n 2 [] := ⟨h, Int.dvd_refl _, by omega, fun q _ h => .inr h, fun q h _ => h.1, fun x h => (by cases h), by decide⟩
theorem PrI.fin {n left p : Int} {ps : List Int} (h : PrI n left p ps) (c : ¬ p ≤ left) : AllPri n ps := ⟨fun q hq hd => by
  rcases h.all q hq hd with h1 | h1
  · exact h1
  · have := Int.le_of_dvd (by have := h.l0; omega) h1
    have := h.least q hq h1
    omega, h.two⟩
end Px
set_option Elab.async false
set_option linter.all false
set_option maxRecDepth 100000
namespace Px
open PySem PySem.Spec PyProof.Rows L2
end Px
set_option Elab.async false
set_option linter.all false
set_option maxRecDepth 100000
namespace Px
open PySem PySem.Spec PyProof.Rows L2
noncomputable def patF (f : Int → Bool) : List (Str × D) := [(("p_half" : Str), .int (lh f)), (("p_pieces" : Str), .tup (pcsD (runs f (2 * lh f + 1).toNat)))]
noncomputable def patD (C : Cl) (f : Int → Bool) : D := .obj C.Pattern ((patF f).map (·.1)) ((patF f).map (·.2))
theorem btw_is {d : D} {lo hi : Int} (h : btwD d lo hi = true) : ∃ i, d = .int i ∧ lo ≤ i ∧ i ≤ hi := by
  cases d with
  | int i =>
    have h : (decide (lo ≤ i) && decide (i ≤ hi)) = true := h
    simp only [Bool.and_eq_true, decide_eq_true_eq] at h
    exact ⟨i, rfl, h⟩
  | _ => cases h
end Px
set_option Elab.async false
set_option linter.all false
set_option maxRecDepth 100000
namespace Px
open PySem PySem.Spec PyProof.Rows L2
def halfOf : D → Option Int
  | .tup (.str s :: .int h :: _) => if s = "look" then some h else none
  | _ => none
def asc (a : List Int) : Prop := a.Pairwise (· < ·)
theorem asc_uniq : ∀ {a b : List Int}, asc a → asc b → (∀ k, k ∈ a ↔ k ∈ b) → a = b
  | [], [], _, _, _ => rfl
  | [], y :: s, _, _, h => absurd ((h y).mpr List.mem_cons_self) List.not_mem_nil
  | x :: r, [], _, _, h => absurd ((h x).mp List.mem_cons_self) List.not_mem_nil
  | x :: r, y :: s, ha, hb, h => by
    obtain ⟨a1, a2⟩ := List.pairwise_cons.mp ha
    obtain ⟨b1, b2⟩ := List.pairwise_cons.mp hb
    have e : x = y := by
      rcases List.mem_cons.mp ((h x).mp List.mem_cons_self) with e | m1
      · exact e
      · rcases List.mem_cons.mp ((h y).mpr List.mem_cons_self) with e | m2
        · exact e.symm
        · have := b1 x m1; have := a1 y m2; omega
    subst e
    rw [asc_uniq a2 b2 fun k => ⟨fun hk => ?_, fun hk => ?_⟩]
    · rcases List.mem_cons.mp ((h k).mp (List.mem_cons_of_mem _ hk)) with e | m
      · have := a1 k hk; omega
      · exact m
    · rcases List.mem_cons.mp ((h k).mpr (List.mem_cons_of_mem _ hk)) with e | m
      · have := b1 k hk; omega
      · exact m
def ascL (ns : List Int) : List Int := ((List.range 1001).map fun i : Nat => (i : Int)).filter fun k => decide (k ∈ ns)
def hvL (l : List D) : List Int := l.filterMap halfOf
def hvs (l : List D) : List Int := ascL (hvL l)
def GdA (d : D) : Prop := ∃ L B n, Gd L B n d ∧ L ≤ 100000
theorem GdA.plain {d : D} (h : GdA d) : Px.plain d = true := by obtain ⟨L, B, n, h, _⟩ := h; exact h.plain
theorem GdA.tup {l : List D} (h : GdA (.tup l)) : l.length ≤ 100000 ∧ ∀ x ∈ l, GdA x := by
  obtain ⟨L, B, n, h, hL⟩ := h
  obtain ⟨m, _, h1, h2⟩ := h.tup
  exact ⟨by omega, fun x hx => ⟨L, B, m, h2 x hx, hL⟩⟩
theorem GdA.lst {l : List D} (h : GdA (.lst l)) : l.length ≤ 100000 ∧ ∀ x ∈ l, GdA x := by
  obtain ⟨L, B, n, h, hL⟩ := h
  obtain ⟨m, _, h1, h2⟩ := h.lst
  exact ⟨by omega, fun x hx => ⟨L, B, m, h2 x hx, hL⟩⟩
structure RowsOk (l : List D) : Prop where
  ne : l ≠ []
  len : l.length ≤ 20
  row : ∀ d ∈ l, isRowD d l.length = true
theorem row_shape {d : D} {many : Int} (h : isRowD d many = true) :
    (∃ x, d = .tup [.str "tell", .str x] ∧ isWordD (.str x) = true) ∨ (∃ hf el gl, d = .tup [.str "look", .int hf, .tup el, .tup gl] ∧ (1 ≤ hf ∧ hf ≤ 1000) ∧ areEndsD (.tup el) hf = true ∧ gl.length = 2 * el.length + 1 ∧ ∀ y ∈ gl, btwD y 0 (many - 1) = true) := by
  cases d with
  | tup l =>
    replace h : (isTellD l || isLookD many l) = true := h
    rcases Bool.or_eq_true_iff.mp h with h1 | h1 <;> clear h
    · left
      unfold isTellD at h1
      split at h1
      · rename_i s x
        simp only [Bool.and_eq_true, decide_eq_true_eq] at h1
        obtain ⟨rfl, h1⟩ := h1
        cases x with
        | str x => exact ⟨x, rfl, h1⟩
        | _ => cases h1
      · cases h1
    · right
      unfold isLookD at h1
      split at h1
      · rename_i s hf el gl
        simp only [Bool.and_eq_true, decide_eq_true_eq, List.all_eq_true] at h1
        obtain ⟨rfl, h2, h3, h4, h5⟩ := h1
        have h6 : (decide (1 ≤ hf) && decide (hf ≤ 1000)) = true := h2
        simp only [Bool.and_eq_true, decide_eq_true_eq] at h6
        exact ⟨hf, el, gl, rfl, h6, h3, h4, h5⟩
      · cases h1
  | _ => cases h
end Px
set_option Elab.async false
set_option linter.all false
set_option maxRecDepth 100000
namespace Px
open PySem PySem.Spec PyProof.Rows L2
mutual
theorem eqv_refl : ∀ d : D, PyData.eqv (toPy d) (toPy d) = true
  | .non => rfl
  | .bl b => by cases b <;> rfl
  | .int i => decide_eq_true (rfl : i = i)
  | .str s => decide_eq_true (rfl : s = s)
  | .tup l => eqvL_refl l
  | .lst l => eqvL_refl l
  | .dic _ _ => rfl
  | .obj _ _ _ => rfl
  | .raw _ => rfl
  | .scr _ => rfl
  | .clo _ _ _ _ _ => rfl
  | .fnc _ _ _ _ => rfl
  | .exv _ _ _ _ _ => rfl
theorem eqvL_refl : ∀ l : List D, PyData.eqvAll (toPyL l) (toPyL l) = true
  | [] => rfl
  | d :: r => by
    show (PyData.eqv (toPy d) (toPy d) && PyData.eqvAll (toPyL r) (toPyL r)) = true
    rw [eqv_refl d, eqvL_refl r]; rfl
end
theorem int_of_btw {l : List D} {lo hi : Int} (h : ∀ d ∈ l, btwD d lo hi = true) : ∃ ns : List Int, l = ns.map .int ∧ ∀ n ∈ ns, lo ≤ n ∧ n ≤ hi := by
  induction l with
  | nil => exact ⟨[], rfl, fun n hn => absurd hn List.not_mem_nil⟩
  | cons d r ih =>
    obtain ⟨ns, rfl, h2⟩ := ih fun x hx => h x (List.mem_cons_of_mem _ hx)
    obtain ⟨i, rfl, h0, h1⟩ := btw_is (h d List.mem_cons_self)
    exact ⟨i :: ns, rfl, fun n hn => by
      rcases List.mem_cons.mp hn with rfl | hn
      · exact ⟨h0, h1⟩
      · exact h2 n hn⟩
theorem ascD_asc : ∀ (ns : List Int) (last h : Int), ascD last h (ns.map .int) = true ↔ (asc ns ∧ ∀ n ∈ ns, last + 1 ≤ n ∧ n ≤ h)
  | [], last, h => ⟨fun _ => ⟨List.Pairwise.nil, fun n hn => absurd hn List.not_mem_nil⟩, fun _ => rfl⟩
  | n :: r, last, h => by
    show ((decide (last + 1 ≤ n) && decide (n ≤ h)) && ascD n h (r.map .int)) = true ↔ _
    rw [Bool.and_eq_true, Bool.and_eq_true, decide_eq_true_eq, decide_eq_true_eq, ascD_asc r n h]
    constructor
    · rintro ⟨⟨h1, h2⟩, h3, h4⟩
      refine ⟨List.pairwise_cons.mpr ⟨fun m hm => by have := h4 m hm; omega, h3⟩, fun m hm => ?_⟩
      rcases List.mem_cons.mp hm with rfl | hm
      · exact ⟨h1, h2⟩
      · have := h4 m hm; omega
    · rintro ⟨h1, h2⟩
      obtain ⟨h3, h4⟩ := List.pairwise_cons.mp h1
      exact ⟨h2 n List.mem_cons_self, h4, fun m hm => ⟨by have := h3 m hm; omega, (h2 m (List.mem_cons_of_mem _ hm)).2⟩⟩
theorem ends_ints {el : List D} {h : Int} (he : areEndsD (.tup el) h = true) : ∃ ns : List Int, el = ns.map .int ∧ asc ns ∧ (∀ n ∈ ns, 0 ≤ n ∧ n ≤ h) ∧ ns.length ≤ 12 := by
  have he' : (decide (el.length ≤ 12) && ascD (-1) h el) = true := he
  rw [Bool.and_eq_true, decide_eq_true_eq] at he'
  obtain ⟨h12, ha⟩ := he'
  have key : ∀ (l : List D) (last : Int), ascD last h l = true → ∀ d ∈ l, ∃ i, d = .int i := by
    intro l
    induction l with
    | nil => intro _ _ d hd; exact absurd hd List.not_mem_nil
    | cons x r ih =>
      intro last hx d hd
      simp only [ascD, Bool.and_eq_true] at hx
      obtain ⟨i, rfl, _⟩ := btw_is hx.1
      rcases List.mem_cons.mp hd with rfl | hd
      · exact ⟨i, rfl⟩
      · exact ih i hx.2 d hd
  have : ∃ ns : List Int, el = ns.map .int := by
    clear he h12
    have k2 := key el (-1) ha
    clear ha
    induction el with
    | nil => exact ⟨[], rfl⟩
    | cons x r ih =>
      obtain ⟨i, rfl⟩ := k2 x List.mem_cons_self
      obtain ⟨ns, rfl⟩ := ih fun d hd => k2 d (List.mem_cons_of_mem _ hd)
      exact ⟨i :: ns, rfl⟩
  obtain ⟨ns, rfl⟩ := this
  obtain ⟨a1, a2⟩ := (ascD_asc ns (-1) h).mp ha
  rw [List.length_map] at h12
  exact ⟨ns, rfl, a1, fun n hn => by have := a2 n hn; omega, h12⟩
end Px
set_option Elab.async false
set_option linter.all false
set_option maxRecDepth 100000
namespace Px
open PySem PySem.Spec PyProof.Rows L2
structure ZG (xs ys : Array Value) (lo : Addr) (h : Heap) (as : List Addr) : Prop where
  rise : as.Pairwise (· < ·)
  above : ∀ a ∈ as, lo < a
  pairs : ∀ (j : Nat) (a : Addr), as[j]? = some a → ∃ x y, xs[j]? = some x ∧ ys[j]? = some y ∧ h.get? a = some { cls := .type "tuple", data := .seq #[x, y] }
theorem ZG.there {xs ys : Array Value} {lo : Addr} {h : Heap} {as : List Addr} (g : ZG xs ys lo h as) {a : Addr} (ha : a ∈ as) : a < h.objs.size := by
  obtain ⟨j, hj⟩ := List.mem_iff_getElem?.mp ha
  obtain ⟨_, _, _, _, e⟩ := g.pairs j a hj
  exact Heap.lt_size e
structure ZSt (z TI TO i1 i2 l1 l2 S : Addr) (xs ys : Array Value) (i : Nat) (h : Heap) : Prop where
  ti : IsPair h TI (.ref i1) (.ref i2)
  h1 : h.IsListIter i1 l1 i
  h2 : h.IsListIter i2 l2 i
  hl1 : h.IsList l1 xs
  hl2 : h.IsList l2 ys
  hz : (IsZip h z TI TO .none ∧ ∃ a b, IsPair h TO a b) ∨ ∃ T f oT, IsZipHeld h z TI TO T f ∧ h.get? T = some oT ∧ T ≠ z ∧ T ≠ i1 ∧ T ≠ i2 ∧ T ≠ S
structure ZOff (z TI TO i1 i2 l1 l2 S : Addr) : Prop where
  z : S ≠ z
  TI : S ≠ TI
  TO : S ≠ TO
  i1 : S ≠ i1
  i2 : S ≠ i2
  l1 : S ≠ l1
  l2 : S ≠ l2
theorem ZSt.keep {z TI TO i1 i2 l1 l2 S : Addr} {xs ys : Array Value} {i : Nat} {h h' : Heap} (st : ZSt z TI TO i1 i2 l1 l2 S xs ys i h) (f : ZOff z TI TO i1 i2 l1 l2 S) (k : ∀ b o, b ≠ S → h.get? b = some o → h'.get? b = some o) : ZSt z TI TO i1 i2 l1 l2 S xs ys i h' where
  ti := k _ _ f.TI.symm st.ti
  h1 := st.h1.at fun o e => k _ o f.i1.symm e
  h2 := st.h2.at fun o e => k _ o f.i2.symm e
  hl1 := st.hl1.at fun o e => k _ o f.l1.symm e
  hl2 := st.hl2.at fun o e => k _ o f.l2.symm e
  hz := by
    rcases st.hz with ⟨hz, a, b, hTO⟩ | ⟨T, g, oT, hz, hT, r1, r2, r3, r4⟩
    · exact .inl ⟨k _ _ f.z.symm hz, a, b, k _ _ f.TO.symm hTO⟩
    · exact .inr ⟨T, g, oT, k _ _ f.z.symm hz, k _ _ r4 hT, r1, r2, r3, r4⟩
section
variable {prog : Program} {w : World} {A : Around} {E : Value → Shared → Prop} {s : Shared} {z TI TO i1 i2 l1 l2 S : Addr} {xs ys : Array Value} {i n : Nat}
end
section
variable {prog : Program} {w : World} {A : Around} {E : Value → Shared → Prop} {s : Shared} {z TI TO i1 i2 l1 l2 S : Addr} {xs ys : Array Value} {n : Nat}
theorem ZSt.typeIs {i : Nat} {h : Heap} (st : ZSt z TI TO i1 i2 l1 l2 S xs ys i h) : ∃ o, h.get? z = some o ∧ o.cls = .type "zip" := by
  rcases st.hz with ⟨hz, _⟩ | ⟨T, g, oT, hz, _⟩
  · exact ⟨_, hz, rfl⟩
  · exact ⟨_, hz, rfl⟩
end
section
variable {X : Cx} {W : WX} {a b : Expr} {pa pb : PTE} {p p2 pos pos2 : Pos}
end
end Px
set_option Elab.async false
set_option linter.all false
set_option maxRecDepth 100000
namespace Px
open PySem PySem.Spec PyProof.Rows L2
def IsPat (C : Cl) (d : D) (f : Int → Bool) : Prop := d = patD C f ∧ (∃ h, Per h f) ∧ lh f ≤ 5040
theorem IsPat.per {C : Cl} {d : D} {f : Int → Bool} (h : IsPat C d f) : Per (lh f) f := let ⟨_, ⟨_, p⟩, _⟩ := h; lh_per p
theorem IsPat.pos {C : Cl} {d : D} {f : Int → Bool} (h : IsPat C d f) : 0 < lh f := h.per.1
end Px
set_option Elab.async false
set_option linter.all false
set_option maxRecDepth 100000
namespace Px
open PySem PySem.Spec PyProof.Rows L2
end Px
set_option Elab.async false
set_option linter.all false
set_option maxRecDepth 100000
namespace Px
open PySem PySem.Spec PyProof.Rows L2
theorem Per.op {d : Int} {f g : Int → Bool} (hf : Per d f) (hg : Per d g) (fn : Bool → Bool → Bool) : Per d fun z => fn (f z) (g z) :=
  ⟨hf.1, fun z => by show fn _ _ = fn _ _; rw [hf.2.1, hg.2.1], fun z => by show fn _ _ = fn _ _; rw [hf.2.2, hg.2.2]⟩
end Px
set_option Elab.async false
set_option linter.all false
set_option maxRecDepth 100000
namespace Px
open PySem PySem.Spec PyProof.Rows L2
section
variable {X : Cx} {W : WX} {tg a b c : Expr} {rest : List Expr} {pa pb pc : PTE} {pos p : Pos}
end
end Px
set_option Elab.async false
set_option linter.all false
set_option maxRecDepth 100000
namespace Px
open PySem PySem.Spec PyProof.Rows L2
theorem filter_nil {p : Nat → Bool} {m : Nat} (h : (List.range m).filter p = []) : ∀ j, j < m → p j = false := fun j hj => by
  cases c : p j with
  | false => rfl
  | true =>
    have : j ∈ (List.range m).filter p := List.mem_filter.mpr ⟨List.mem_range.mpr hj, c⟩
    rw [h] at this; cases this
end Px
set_option Elab.async false
set_option linter.all false
set_option maxRecDepth 100000
namespace Px
open PySem PySem.Spec PyProof.Rows L2
end Px
set_option Elab.async false
set_option linter.all false
set_option maxRecDepth 100000
namespace Px
open PySem PySem.Spec PyProof.Rows L2
def IsW (s : Str) : Prop := 1 ≤ s.cps.size ∧ s.cps.size ≤ 8 ∧ ∀ c ∈ s.cps.toList, 97 ≤ c ∧ c ≤ 122
theorem IsW.sok {s : Str} (h : IsW s) : SOk s := by
  refine ⟨?_, ?_, ?_⟩
  · simp only [PyData.strOk, Array.all_eq_true]
    intro i hi
    have := h.2.2 (s.cps[i]) (by simp)
    exact decide_eq_true (by omega)
  · simp only [PyData.leavesShort, List.all_eq_true]
    intro c hc
    have := h.2.2 c hc
    exact decide_eq_true (by omega)
  · simp only [PyData.weight]
    have := h.2.1
    omega
end Px
set_option Elab.async false
set_option linter.all false
set_option maxRecDepth 100000
namespace Px
open PySem PySem.Spec PyProof.Rows L2
theorem isW_lit : ∀ s ∈ (["a", "b", "slow", "tell", "look"] : List Str), IsW s := by unfold IsW; decide +kernel
def RwG (d : D) : Prop := Gd 30 1000 2 d ∧ sz d ≤ 700
theorem szL_ints {ns : List Int} {c : Nat} (h : ∀ n ∈ ns, sz (.int n) ≤ c) : szL (ns.map .int) ≤ c * ns.length := by
  induction ns with
  | nil => exact Nat.zero_le _
  | cons n r ih =>
    have h1 := h n List.mem_cons_self
    have h2 := ih fun k hk => h k (List.mem_cons_of_mem _ hk)
    show sz (.int n) + szL (r.map .int) ≤ c * (r.length + 1)
    rw [Nat.mul_succ]; omega
theorem sz_half {i : Int} (h0 : 0 ≤ i) (h1 : i ≤ 1000) : sz (.int i) ≤ 12 := by
  show i.natAbs.log2 + 2 ≤ 12
  by_cases z : i.natAbs = 0
  · rw [z]; decide
  · have := (Nat.log2_lt z).mpr (show i.natAbs < 2 ^ 10 by omega)
    omega
theorem sz_small {i : Int} (h0 : 0 ≤ i) (h1 : i < 32) : sz (.int i) ≤ 6 := by
  show i.natAbs.log2 + 2 ≤ 6
  by_cases z : i.natAbs = 0
  · rw [z]; decide
  · have := (Nat.log2_lt z).mpr (show i.natAbs < 2 ^ 5 by omega)
    omega
theorem gd_ints {ns : List Int} {L B n : Nat} (hl : ns.length ≤ L) (h : ∀ k ∈ ns, k.natAbs ≤ B) : Gd L B (n + 1) (.tup (ns.map .int)) := by
  simp only [Gd]
  refine ⟨by rw [List.length_map]; exact hl, fun x hx => ?_⟩
  obtain ⟨k, hk, rfl⟩ := List.mem_map.mp hx
  simp only [Gd]
  exact h k hk
theorem look_row {hf many : Int} {es gs : List Int} (h0 : 1 ≤ hf) (h1 : hf ≤ 1000) (ha : asc es) (he : ∀ n ∈ es, 0 ≤ n ∧ n ≤ hf) (hl : es.length ≤ 12) (hm : many ≤ 20) (hg : ∀ n ∈ gs, 0 ≤ n ∧ n ≤ many - 1) (hn : gs.length = 2 * es.length + 1) :
    isRowD (.tup [.str "look", .int hf, .tup (es.map .int), .tup (gs.map .int)]) many = true ∧ RwG (.tup [.str "look", .int hf, .tup (es.map .int), .tup (gs.map .int)]) ∧ halfOf (.tup [.str "look", .int hf, .tup (es.map .int), .tup (gs.map .int)]) = some hf := by
  refine ⟨?_, ⟨?_, ?_⟩, ?_⟩
  · have e1 : areEndsD (.tup (es.map .int)) hf = true := by
      show (decide ((es.map D.int).length ≤ 12) && _) = true
      rw [List.length_map, decide_eq_true hl, (ascD_asc es (-1) hf).mpr ⟨ha, fun n h => by have := he n h; omega⟩]; rfl
    have e2 : ((gs.map D.int).all fun d => btwD d 0 (many - 1)) = true := by
      rw [List.all_eq_true]
      intro y hy
      obtain ⟨i, hi, rfl⟩ := List.mem_map.mp hy
      show (decide (0 ≤ i) && decide (i ≤ many - 1)) = true
      rw [decide_eq_true (hg i hi).1, decide_eq_true (hg i hi).2]; rfl
    have e3 : btwD (.int hf) 1 1000 = true := by
      show (decide (1 ≤ hf) && decide (hf ≤ 1000)) = true
      rw [decide_eq_true h0, decide_eq_true h1]; rfl
    simp only [isRowD, isLookD, e1, e2, e3, List.length_map, hn]
    simp
  · simp only [Gd]
    refine ⟨by show 4 ≤ 30; decide, fun x hx => ?_⟩
    simp only [List.mem_cons, List.not_mem_nil, or_false] at hx
    rcases hx with rfl | rfl | rfl | rfl
    · simp only [Gd]; exact (isW_lit "look" (by simp)).sok
    · simp only [Gd]; omega
    · exact gd_ints (by omega) fun k hk => by have := he k hk; omega
    · exact gd_ints (by omega) fun k hk => by have := hg k hk; omega
  · have s1 := szL_ints (c := 12) fun n hn => sz_half (he n hn).1 (by have := he n hn; omega)
    have s2 := szL_ints (c := 6) fun n hn => sz_small (hg n hn).1 (by have := hg n hn; omega)
    have s3 := sz_half (show 0 ≤ hf by omega) h1
    have e : sz (.str "look") = 5 := by decide +kernel
    show (sz (.str "look") + (sz (.int hf) + ((szL (es.map .int) + 1) + ((szL (gs.map .int) + 1) + 0)))) + 1 ≤ 700
    omega
  · show (if ("look" : Str) = "look" then some hf else none) = some hf
    rw [if_pos rfl]
structure RInv (hs : List Int) (many : Int) (l : List D) : Prop where
  row : ∀ d ∈ l, isRowD d many = true
  rw : ∀ d ∈ l, RwG d
  hv : ∀ k ∈ hvL l, k ∈ hs
theorem RInv.app {hs : List Int} {many : Int} {l : List D} {d : D} (h : RInv hs many l) (h1 : isRowD d many = true) (h2 : RwG d) (h3 : ∀ k, halfOf d = some k → k ∈ hs) : RInv hs many (l ++ [d]) where
  row := fun x hx => by
    rcases List.mem_append.mp hx with hx | hx
    · exact h.row x hx
    · rw [List.mem_singleton.mp hx]; exact h1
  rw := fun x hx => by
    rcases List.mem_append.mp hx with hx | hx
    · exact h.rw x hx
    · rw [List.mem_singleton.mp hx]; exact h2
  hv := fun k hk => by
    obtain ⟨x, hx, e⟩ := List.mem_filterMap.mp hk
    rcases List.mem_append.mp hx with hx | hx
    · exact h.hv k (List.mem_filterMap.mpr ⟨x, hx, e⟩)
    · rw [List.mem_singleton.mp hx] at e; exact h3 k e
section
variable {C : Cl} {w : PWi} {P : PEnds} {M : Mm} {a : Addr} {most many at_ : Int} {hs : List Int} {l : List D}
end
end Px
set_option Elab.async false
set_option linter.all false
set_option maxRecDepth 100000
namespace Px
open PySem PySem.Spec PyProof.Rows L2
def Ev (pe : PTE) (w : PWi) (ρ : Rho) (M : Mm) (d : D) : Prop := ∀ q : PQ, q d M → pe w ρ M q
section
variable {C : Cl} {w : PWi} {ρ : Rho} {M : Mm} {pa pb : PTE} {f g : Int → Bool} {s o : D}
theorem ev_var {i : Nat} {d : D} (h : gt ρ i = some (.val d)) : Ev (dVar i) w ρ M d := fun q hq => by
  unfold dVar
  rw [h]
  exact hq
theorem ev_c {d : D} : Ev (dC d) w ρ M d := fun q hq => hq
end
end Px
set_option Elab.async false
set_option linter.all false
set_option maxRecDepth 100000
namespace Px
open PySem PySem.Spec PyProof.Rows L2
end Px
set_option Elab.async false
set_option linter.all false
set_option maxRecDepth 100000
namespace Px
open PySem PySem.Spec PyProof.Rows L2
def Op1 (f : F1) (x z : D) : Prop := ∀ k : D → Prop, k z → f x k
def Op2 (f : F2) (x y z : D) : Prop := ∀ k : D → Prop, k z → f x y k
def EvG (pe : PTE) (w : PWi) (ρ : Rho) (M : Mm) (G : D → Prop) : Prop := ∀ q : PQ, (∀ d, G d → q d M) → pe w ρ M q
def EvT (t : PTT) (w : PWi) (ρ : Rho) (M : Mm) (b : Bool) : Prop := ∀ q : Bool → Mm → Prop, q b M → t w ρ M q
def EvA (pl : PTA) (w : PWi) (ρ : Rho) (M : Mm) (ds : List D) : Prop := ∀ q : List D → Mm → Prop, q ds M → pl w ρ M q
section
variable {w : PWi} {ρ : Rho} {M : Mm} {pa pb pc : PTE} {pl : PTA} {t u : PTT} {x y z d : D} {f f' : F2} {g : F1} {b c : Bool} {ds : List D}
theorem ev_own {i : Nat} {l : List D} (h : gt ρ i = some (.own l)) : Ev (dOwn i) w ρ M (.lst l) := fun q hq => by
  unfold dOwn
  rw [h]
  exact hq
theorem ev_op (ha : Ev pa w ρ M x) (hb : Ev pb w ρ M y) (h : Op2 f x y z) : Ev (dOp f pa pb) w ρ M z := fun q hq => ha _ (hb _ (h _ hq))
theorem ev_b1 (ha : Ev pa w ρ M x) (h : Op1 g x z) : Ev (dB1 g pa) w ρ M z := fun q hq => ha _ (h _ hq)
theorem eva_nil : EvA dNil w ρ M [] := fun q hq => hq
theorem eva_cons (ha : Ev pa w ρ M x) (hl : EvA pl w ρ M ds) : EvA (dCons pa pl) w ρ M (x :: ds) := fun q hq => ha _ (hl _ hq)
theorem ev_tup (h : EvA pl w ρ M ds) (hl : ds.length ≤ 1000000 := by decide) : Ev (dTup pl) w ρ M (.tup ds) := fun q hq => h _ ⟨hl, hq⟩
theorem ev_lst (h : EvA pl w ρ M ds) (hl : ds.length ≤ 1000000 := by decide) : Ev (dL (dLst pl)) w ρ M (.lst ds) := fun q hq => h _ ⟨hl, hq⟩
theorem ev_call {sp : PSp} {v : D} (h : EvA pl w ρ M ds) (hs : ∀ q e, q v M → sp (ds ++ []) M q e) : Ev (dCall sp [] pl) w ρ M v := fun q hq => h _ (hs _ _ hq)
theorem ev_and {x : Bool} (ha : Ev pa w ρ M (.bl b)) (hb : b = true → Ev pb w ρ M (.bl c)) (e : x = (b && c)) : Ev (dAndV pa pb) w ρ M (.bl x) := fun q hq => ha _ (by
  subst e
  show if b = true then pb w ρ M q else q (.bl false) M
  cases b with
  | true => exact itT rfl (hb rfl q hq)
  | false => exact itF rfl hq)
theorem evt (ha : Ev pa w ρ M (.bl b)) : EvT (dTst pa) w ρ M b := fun q hq => ha _ hq
theorem evt_not (h : EvT t w ρ M b) : EvT (dNot t) w ρ M (!b) := fun q hq => h _ hq
theorem evt_or {x : Bool} (h : EvT t w ρ M b) (h2 : b = false → EvT u w ρ M c) (e : x = (b || c)) : EvT (dOr t u) w ρ M x := fun q hq => h _ (by
  subst e
  cases b with
  | true => exact itT rfl hq
  | false => exact itF rfl (h2 rfl q hq))
theorem evt_and {x : Bool} (h : EvT t w ρ M b) (h2 : b = true → EvT u w ρ M c) (e : x = (b && c)) : EvT (dAnd t u) w ρ M x := fun q hq => h _ (by
  subst e
  cases b with
  | true => exact itT rfl (h2 rfl q hq)
  | false => exact itF rfl hq)
theorem evt_orF (h : EvT t w ρ M false) (h2 : EvT u w ρ M b) : EvT (dOr t u) w ρ M b := fun q hq => h _ (itF rfl (h2 q hq))
theorem evt_orT (h : EvT t w ρ M true) : EvT (dOr t u) w ρ M true := fun q hq => h _ (itT rfl hq)
theorem evt_andT (h : EvT t w ρ M true) (h2 : EvT u w ρ M b) : EvT (dAnd t u) w ρ M b := fun q hq => h _ (itT rfl (h2 q hq))
theorem evt_andF (h : EvT t w ρ M false) : EvT (dAnd t u) w ρ M false := fun q hq => h _ (itF rfl hq)
section
variable {P : PEnds} {p r : PTS} {i : Nat}
theorem if_ev (h : EvT t w ρ M b) (kt : b = true → p w P ρ M) (kf : b = false → r w P ρ M) : dIfS t p r w P ρ M := h _ (by
  cases b with
  | true => exact itT rfl (kt rfl)
  | false => exact itF rfl (kf rfl))
theorem set_ev (h : Ev pa w ρ M d) (k : P.nx (st ρ i (.val d)) M) : dSet i pa w P ρ M := h _ k
theorem set_evg {G : D → Prop} (h : EvG pa w ρ M G) (k : ∀ d, G d → P.nx (st ρ i (.val d)) M) : dSet i pa w P ρ M := h _ k
theorem app_ev {l : List D} (hg : gt ρ i = some (.own l)) (hl : l.length < 1000000) (h : Ev pa w ρ M d) (k : P.nx (st ρ i (.own (l ++ [d]))) M) : dApp i pa w P ρ M := ⟨by unfold isOwn; rw [hg]; trivial, h _ (by
  unfold appR
  rw [hg]
  exact ⟨hl, k⟩)⟩
theorem sqSet (h : Ev pa w ρ M d) (k : r w P (st ρ i (.val d)) M) : dSeq (dSet i pa) r w P ρ M := h _ k
theorem sqIfFN {s : PTS} (h : EvT t w ρ M false) (k : r w P ρ M) : dSeq (dIfS t s dNext) r w P ρ M := h _ (itF rfl k)
theorem sqIfT {s s' : PTS} (h : EvT t w ρ M true) (k : s w { P with nx := r w P } ρ M) : dSeq (dIfS t s s') r w P ρ M := h _ (itT rfl k)
theorem sqIfTR {s' : PTS} (h : EvT t w ρ M true) (he : Ev pa w ρ M d) (k : P.rt d M) : dSeq (dIfS t (dRet pa) s') r w P ρ M := h _ (itT rfl (he _ k))
theorem sqPar {i j : Nat} {x y : D} (h : EvA pl w ρ M [x, y]) (k : r w P (st (st ρ i (.val x)) j (.val y)) M) : dSeq (dPar i j pl) r w P ρ M := h _ k
theorem sqStep (h : p w { P with nx := r w P } ρ M) : dSeq p r w P ρ M := h
theorem sqApp {l : List D} (hg : gt ρ i = some (.own l)) (hl : l.length < 1000000) (h : Ev pa w ρ M d) (k : r w P (st ρ i (.own (l ++ [d]))) M) : dSeq (dApp i pa) r w P ρ M := app_ev hg hl h k
end
theorem evg_take {a : Addr} {n : Int} (ha : Ev pa w ρ M (.raw (.ref a))) (hb : Ev pb w ρ M (.int n)) (hm : M a = some .draw) (h : 0 < n ∧ n.natAbs.log2 < 9000) : EvG (dCall sp_take [] (dCons pa (dCons pb dNil))) w ρ M (fun z => ∃ k : Int, z = .int k ∧ 0 ≤ k ∧ k < n) :=
  fun q hq => ha _ (hb _ ⟨hm, h, fun k h0 h1 => hq _ ⟨k, rfl, h0, h1⟩⟩)
theorem evg_pick {a : Addr} {l : List D} (ha : Ev pa w ρ M (.raw (.ref a))) (hb : Ev pb w ρ M (.lst l)) (hm : M a = some .draw) (h : 0 < l.length ∧ l.length ≤ 100000) : EvG (dCall sp_pick [] (dCons pa (dCons pb dNil))) w ρ M (fun z => z ∈ l) :=
  fun q hq => ha _ (hb _ ⟨hm, h, fun x hx => hq _ hx⟩)
theorem evg_opR {G H : D → Prop} (ha : Ev pa w ρ M x) (hb : EvG pb w ρ M G) (h : ∀ y, G y → ∃ z, Op2 f x y z ∧ H z) : EvG (dOp f pa pb) w ρ M H := fun q hq => ha _ (hb _ fun y hy => by
  obtain ⟨z, h1, h2⟩ := h y hy
  exact h1 _ (hq z h2))
end
section
variable {i j : Int} {l m : List D}
theorem o2_add : Op2 fAdd (.int i) (.int j) (.int (i + j)) := fun k h => h
theorem o2_cat (h : l.length + m.length ≤ 1000000) : Op2 fAdd (.lst l) (.lst m) (.lst (l ++ m)) := fun k hk => ⟨h, hk⟩
theorem o2_sub : Op2 fSub (.int i) (.int j) (.int (i - j)) := fun k h => h
theorem o2_cmp {p : Int → Int → Bool} : Op2 (fCmp p) (.int i) (.int j) (.bl (p i j)) := fun k h => h
theorem o2_eqI : Op2 fEq (.int i) (.int j) (.bl (decide (i = j))) := fun k h => ⟨rfl, h⟩
theorem o2_neI : Op2 fNe (.int i) (.int j) (.bl (!decide (i = j))) := fun k h => ⟨rfl, h⟩
theorem o2_eq {x y : D} (h1 : okD 50 x = true) (h2 : okD 50 y = true) : Op2 fEq x y (.bl (eqD x y)) := fun k h => ⟨by rw [h1, h2]; rfl, h⟩
theorem o2_ne {x y : D} (h1 : okD 50 x = true) (h2 : okD 50 y = true) : Op2 fNe x y (.bl (!eqD x y)) := fun k h => ⟨by rw [h1, h2]; rfl, h⟩
theorem o2_neSS {s : Str} : Op2 fNeS (.str s) (.str s) (.bl false) := fun k h => by
  show k (.bl (!decide (s = s)))
  rw [decide_eq_true rfl]
  exact h
theorem o2_ixL {d : D} (h : atI l i = some d) : Op2 fIx (.lst l) (.int i) d := fun k hk => ⟨d, h, hk⟩
theorem o2_ixT {d : D} (h : atI l i = some d) : Op2 fIx (.tup l) (.int i) d := fun k hk => ⟨d, h, hk⟩
theorem o2_min : Op2 fMin2 (.int i) (.int j) (.int (min i j)) := fun k h => by
  show k (.int (if j < i then j else i))
  have : (if j < i then j else i) = min i j := by split <;> omega
  rw [this]; exact h
theorem o2_max : Op2 fMax2 (.int i) (.int j) (.int (max i j)) := fun k h => by
  show k (.int (if j > i then j else i))
  have : (if j > i then j else i) = max i j := by split <;> omega
  rw [this]; exact h
theorem o2_inI {neg : Bool} {y : D} {ns : List Int} (h : itemsD y = some ns) : Op2 (fInI neg) (.int i) y (.bl (if neg = true then !decide (i ∈ ns) else decide (i ∈ ns))) := fun k hk => by
  unfold fInI
  rw [h]
  cases neg <;> exact hk
theorem o1_tupL : Op1 fTup (.lst l) (.tup l) := fun k h => h
theorem o2_isN {d : D} (h : noRaw d = true) : Op2 fIs d .non (.bl (isN d)) := fun k hk => ⟨h, hk⟩
theorem o2_isnN {d : D} (h : noRaw d = true) : Op2 fIsNot d .non (.bl (!isN d)) := fun k hk => ⟨h, hk⟩
end
end Px
set_option Elab.async false
set_option linter.all false
set_option maxRecDepth 100000
namespace Px
open PySem PySem.Spec PyProof.Rows L2
def b2i (b : Bool) : Int := if b = true then 1 else 0
def cellI (es : List Int) (n b : Int) : Int := (es.map fun e => b2i (decide (e * b ≤ n)) + b2i (decide (e * b < n))).sum
def intsL (l : List D) : List Int := (intsOf l).getD []
def goalD (d : D) (t b : Int) : Option Int := match d with
  | .tup [.str s, .int h, .tup el, .tup gl] => if s = "look" then atI (intsL gl) (cellI (intsL el) (near (2 * h * b) t) b) else none
  | _ => none
theorem atI_in {α : Type} {l : List α} {i : Int} (h0 : 0 ≤ i) (h1 : i < l.length) : ∃ x, atI l i = some x ∧ x ∈ l := by
  have hlt : i.toNat < l.length := by omega
  refine ⟨l[i.toNat], ?_, List.getElem_mem hlt⟩
  have := atI_nat (xs := l) (j := i.toNat) (List.getElem?_eq_getElem hlt)
  rwa [show ((i.toNat : Nat) : Int) = i by omega] at this
def nxP (l : List D) (t b : Int) (k : Int) : Option Int := (atI l k).bind fun d => goalD d t b
inductive RowK (many : Int) : D → Prop where
  | tell (s : Str) (h : isWordD (.str s) = true) : RowK many (.tup [.str "tell", .str s])
  | look (h : Int) (es gs : List Int) (h0 : 1 ≤ h ∧ h ≤ 1000) (ha : asc es) (he : ∀ n ∈ es, 0 ≤ n ∧ n ≤ h) (hl : es.length ≤ 12) (hg : ∀ n ∈ gs, 0 ≤ n ∧ n ≤ many - 1) (hn : gs.length = 2 * es.length + 1) :
    RowK many (.tup [.str "look", .int h, .tup (es.map .int), .tup (gs.map .int)])
theorem rowK {d : D} {many : Int} (h : isRowD d many = true) : RowK many d := by
  rcases row_shape h with ⟨x, rfl, hx⟩ | ⟨hf, el, gl, rfl, h1, h2, h3, h4⟩
  · exact .tell x hx
  · obtain ⟨es, rfl, e1, e2, e3⟩ := ends_ints h2
    obtain ⟨gs, rfl, g1⟩ := int_of_btw h4
    rw [List.length_map, List.length_map] at h3
    exact .look hf es gs h1 e1 e2 e3 g1 h3
theorem RowsOk.at {l : List D} (h : RowsOk l) {k : Int} (h0 : 0 ≤ k) (h1 : k < l.length) : ∃ d, atI l k = some d ∧ d ∈ l ∧ RowK l.length d := by
  obtain ⟨d, e, hd⟩ := atI_in h0 h1
  exact ⟨d, e, hd, rowK (h.row d hd)⟩
theorem nodup_len : ∀ {ms ns : List Int}, ms.Nodup → (∀ k ∈ ms, k ∈ ns) → ms.length ≤ ns.length
  | [], ns, _, _ => Nat.zero_le _
  | x :: r, ns, h, hs => by
    obtain ⟨h1, h2⟩ := List.nodup_cons.mp h
    have hx := hs x List.mem_cons_self
    have := nodup_len (ms := r) (ns := ns.erase x) h2 fun k hk => (List.mem_erase_of_ne (fun e => by rw [e] at hk; exact h1 hk)).mpr (hs k (List.mem_cons_of_mem _ hk))
    rw [List.length_erase_of_mem hx] at this
    have := List.length_pos_of_mem hx
    rw [List.length_cons]; omega
theorem nodup_rng {ms : List Int} {n : Nat} (h : ms.Nodup) (hs : ∀ k ∈ ms, 0 ≤ k ∧ k < n) : ms.length ≤ n := by
  have := nodup_len (ns := (List.range n).map fun i : Nat => (i : Int)) h fun k hk => List.mem_map.mpr ⟨k.toNat, by have := hs k hk; rw [List.mem_range]; omega, by have := hs k hk; omega⟩
  rwa [List.length_map, List.length_range] at this
structure PthI (many : Nat) (p : List Int) (a : Int) : Prop where
  nd : p.Nodup
  rg : ∀ k ∈ p, 0 ≤ k ∧ k < many
  la : p.getLast? = some a
theorem PthI.mem {many : Nat} {p : List Int} {a : Int} (h : PthI many p a) : a ∈ p := List.mem_of_getLast? h.la
theorem PthI.len {many : Nat} {p : List Int} {a : Int} (h : PthI many p a) : p.length ≤ many := nodup_rng h.nd h.rg
theorem PthI.app {many : Nat} {p : List Int} {a g : Int} (h : PthI many p a) (hg : g ∉ p) (h0 : 0 ≤ g) (h1 : g < many) : PthI many (p ++ [g]) g where
  nd := by
    rw [List.nodup_append]
    refine ⟨h.nd, by simp, fun x hx y hy => ?_⟩
    rw [List.mem_singleton.mp hy]
    exact fun e => hg (e ▸ hx)
  rg := fun k hk => by
    rcases List.mem_append.mp hk with hk | hk
    · exact h.rg k hk
    · rw [List.mem_singleton.mp hk]; exact ⟨h0, h1⟩
  la := by simp
structure PthE (l : List D) (t b : Int) (p : List Int) (a : Int) : Prop where
  rg : ∀ k ∈ p, 0 ≤ k ∧ k < l.length
  la : p.getLast? = some a
  len : p.length ≤ 21
  fin : nxP l t b a = none ∨ a ∈ p.dropLast
end Px
set_option Elab.async false
set_option linter.all false
set_option maxRecDepth 100000
namespace Px
open PySem PySem.Spec PyProof.Rows L2
end Px
set_option Elab.async false
set_option linter.all false
set_option maxRecDepth 100000
namespace Px
open PySem PySem.Spec PyProof.Rows L2
end Px
set_option Elab.async false
set_option linter.all false
set_option maxRecDepth 100000
namespace Px
open PySem PySem.Spec PyProof.Rows L2
end Px
set_option Elab.async false
set_option linter.all false
set_option maxRecDepth 100000
namespace Px
open PySem PySem.Spec PyProof.Rows L2
end Px
set_option Elab.async false
set_option linter.all false
set_option maxRecDepth 100000
set_option exponentiation.threshold 3000
namespace Px
open PySem PySem.Spec PyProof.Rows L2
end Px
set_option Elab.async false
set_option linter.all false
set_option maxRecDepth 100000
namespace Px
open PySem PySem.Spec PyProof.Rows L2
def tI (k : Int) : Int := if k % 2 = 0 then k / 2 else k
end Px
set_option Elab.async false
set_option linter.all false
set_option maxRecDepth 100000
namespace Px
open PySem PySem.Spec PyProof.Rows L2
structure PrO (l : List D) : Prop where
  rows : RowsOk l
  rw : ∀ d ∈ l, RwG d
def ixs (n : Nat) : List Int := (List.range n).map fun i : Nat => (i : Int)
theorem ixs_len (n : Nat) : (ixs n).length = n := by unfold ixs; rw [List.length_map, List.length_range]
end Px
set_option Elab.async false
set_option linter.all false
set_option maxRecDepth 100000
namespace Px
open PySem PySem.Spec PyProof.Rows L2
def nkI (p : List Int) : NestedKey := .tup (p.map .num)
theorem nkOfL_ints : ∀ p : List Int, nkOfL (p.map D.int) = some (p.map NestedKey.num)
  | [] => rfl
  | n :: p => by
    show (match some (NestedKey.num n), nkOfL (p.map D.int) with | some a, some b => some (a :: b) | _, _ => none) = _
    rw [nkOfL_ints p]; rfl
theorem nk_tupI (p : List Int) : nkOf (tupI p) = some (nkI p) := by
  show (nkOfL (p.map D.int)).map NestedKey.tup = _
  rw [nkOfL_ints]; rfl
theorem nums_inj : ∀ {p q : List Int}, p.map NestedKey.num = q.map NestedKey.num → p = q
  | [], [], _ => rfl
  | [], _ :: _, h => by cases h
  | _ :: _, [], h => by cases h
  | a :: p, b :: q, h => by
    injection h with h1 h2
    injection h1 with h1
    rw [h1, nums_inj h2]
theorem nkI_inj {p q : List Int} (h : nkI p = nkI q) : p = q := by
  unfold nkI at h
  injection h with h
  exact nums_inj h
theorem dep_nums : ∀ p : List Int, NestedKey.depthAll (p.map .num) ≤ 0
  | [] => Nat.le_refl _
  | n :: p => by
    show max (NestedKey.depth (.num n)) (NestedKey.depthAll (p.map .num)) ≤ 0
    have := dep_nums p
    have e : NestedKey.depth (.num n) = 0 := by simp [NestedKey.depth]
    rw [e]; omega
abbrev Grp := List (List Int × List Int)
def addG : Grp → List Int → Int → Grp
  | [], p, k => [(p, [k])]
  | (p', r) :: G, p, k => if p' = p then (p', r ++ [k]) :: G else (p', r) :: addG G p k
def keysG (G : Grp) : List D := G.map fun g => tupI g.1
theorem keyAt_cons (d : D) (r : List D) (k : NestedKey) : keyAt (d :: r) k = if nkOf d = some k then some 0 else (keyAt r k).map (· + 1) := rfl
theorem addG_at : ∀ {G : Grp} {p : List Int} {k : Int} {j : Nat}, keyAt (keysG G) (nkI p) = some j → ∃ r, G[j]? = some (p, r) ∧ addG G p k = G.set j (p, r ++ [k])
  | [], _, _, _, h => by cases h
  | (p', r) :: G, p, k, j, h => by
    have h : keyAt (tupI p' :: keysG G) (nkI p) = some j := h
    rw [keyAt_cons, nk_tupI] at h
    by_cases c : p' = p
    · subst c
      rw [if_pos rfl] at h
      cases h
      exact ⟨r, rfl, by unfold addG; rw [if_pos rfl]; rfl⟩
    · rw [if_neg (fun z => c (nkI_inj (Option.some.inj z)))] at h
      cases e : keyAt (keysG G) (nkI p) with
      | none => rw [e] at h; cases h
      | some j' =>
        rw [e] at h
        cases h
        obtain ⟨r', h1, h2⟩ := addG_at (k := k) e
        exact ⟨r', by rw [List.getElem?_cons_succ]; exact h1, by unfold addG; rw [if_neg c, h2]; rfl⟩
theorem addG_no : ∀ {G : Grp} {p : List Int} {k : Int}, keyAt (keysG G) (nkI p) = none → addG G p k = G ++ [(p, [k])]
  | [], _, _, _ => rfl
  | (p', r) :: G, p, k, h => by
    have h : keyAt (tupI p' :: keysG G) (nkI p) = none := h
    rw [keyAt_cons, nk_tupI] at h
    by_cases c : p' = p
    · rw [if_pos (by rw [c])] at h; cases h
    · rw [if_neg (fun z => c (nkI_inj (Option.some.inj z)))] at h
      have e : keyAt (keysG G) (nkI p) = none := by
        cases e : keyAt (keysG G) (nkI p) with
        | none => rfl
        | some j' => rw [e] at h; cases h
      unfold addG
      rw [if_neg c, addG_no e]; rfl
theorem addG_len (G : Grp) (p : List Int) (k : Int) : (addG G p k).length ≤ G.length + 1 := by
  cases e : keyAt (keysG G) (nkI p) with
  | none => rw [addG_no e, List.length_append]; exact Nat.le_refl _
  | some j =>
    obtain ⟨r, _, h⟩ := addG_at (k := k) e
    rw [h, List.length_set]; omega
structure GrpOk (f : Int → List Int) (ks : List Int) (G : Grp) : Prop where
  len : G.length ≤ ks.length
  key : ∀ g ∈ G, ∀ k ∈ g.2, k ∈ ks ∧ f k = g.1
  all : ∀ k ∈ ks, ∃ g ∈ G, g.1 = f k ∧ k ∈ g.2
  ne : ∀ g ∈ G, g.2 ≠ []
  cnt : ∀ g ∈ G, g.2.length ≤ ks.length
  nd : (G.map (·.1)).Nodup
theorem addG_keys {G : Grp} {p : List Int} {k : Int} : (addG G p k).map (·.1) = if p ∈ G.map (·.1) then G.map (·.1) else G.map (·.1) ++ [p] := by
  induction G with
  | nil => rfl
  | cons g G ih =>
    obtain ⟨p', r⟩ := g
    unfold addG
    by_cases c : p' = p
    · rw [if_pos c, if_pos (by simp [c])]; rfl
    · rw [if_neg c, List.map_cons, ih]
      show p' :: (if p ∈ G.map (·.1) then G.map (·.1) else G.map (·.1) ++ [p]) = if p ∈ p' :: G.map (·.1) then p' :: G.map (·.1) else (p' :: G.map (·.1)) ++ [p]
      by_cases m : p ∈ G.map (·.1)
      · rw [if_pos m, if_pos (List.mem_cons_of_mem _ m)]
      · rw [if_neg m, if_neg (fun z => by rcases List.mem_cons.mp z with z | z; exact c z.symm; exact m z)]; rfl
theorem addG_mem : ∀ {G : Grp} {p : List Int} {k : Int} {g : List Int × List Int}, g ∈ addG G p k → (g ∈ G ∧ g.1 ≠ p) ∨ (g ∈ G ∧ False) ∨ (g.1 = p ∧ ((∃ r, (p, r) ∈ G ∧ g.2 = r ++ [k]) ∨ g.2 = [k])) ∨ g ∈ G
  | [], p, k, g, h => by
    have h : g = (p, [k]) := by simpa [addG] using h
    subst h
    exact .inr (.inr (.inl ⟨rfl, .inr rfl⟩))
  | (p', r) :: G, p, k, g, h => by
    unfold addG at h
    by_cases c : p' = p
    · rw [if_pos c] at h
      rcases List.mem_cons.mp h with rfl | h
      · exact .inr (.inr (.inl ⟨c, .inl ⟨r, by rw [← c]; exact List.mem_cons_self, rfl⟩⟩))
      · exact .inr (.inr (.inr (List.mem_cons_of_mem _ h)))
    · rw [if_neg c] at h
      rcases List.mem_cons.mp h with rfl | h
      · exact .inr (.inr (.inr List.mem_cons_self))
      · rcases addG_mem h with ⟨h1, h2⟩ | ⟨_, z⟩ | ⟨h1, ⟨r', h2, h3⟩ | h2⟩ | h1
        · exact .inl ⟨List.mem_cons_of_mem _ h1, h2⟩
        · exact z.elim
        · exact .inr (.inr (.inl ⟨h1, .inl ⟨r', List.mem_cons_of_mem _ h2, h3⟩⟩))
        · exact .inr (.inr (.inl ⟨h1, .inr h2⟩))
        · exact .inr (.inr (.inr (List.mem_cons_of_mem _ h1)))
theorem addG_has : ∀ {G : Grp} {p : List Int} {k : Int}, (∃ g ∈ addG G p k, g.1 = p ∧ k ∈ g.2) ∧ ∀ g ∈ G, ∃ g' ∈ addG G p k, g'.1 = g.1 ∧ ∀ x ∈ g.2, x ∈ g'.2
  | [], p, k => ⟨⟨(p, [k]), by simp [addG], rfl, by simp⟩, fun g h => by cases h⟩
  | (p', r) :: G, p, k => by
    unfold addG
    by_cases c : p' = p
    · rw [if_pos c]
      refine ⟨⟨_, List.mem_cons_self, c, by simp⟩, fun g h => ?_⟩
      rcases List.mem_cons.mp h with rfl | h
      · exact ⟨_, List.mem_cons_self, rfl, fun x hx => List.mem_append_left _ hx⟩
      · exact ⟨g, List.mem_cons_of_mem _ h, rfl, fun x hx => hx⟩
    · rw [if_neg c]
      obtain ⟨⟨g0, h1, h2⟩, h3⟩ := addG_has (G := G) (p := p) (k := k)
      refine ⟨⟨g0, List.mem_cons_of_mem _ h1, h2⟩, fun g h => ?_⟩
      rcases List.mem_cons.mp h with rfl | h
      · exact ⟨_, List.mem_cons_self, rfl, fun x hx => hx⟩
      · obtain ⟨g', h4, h5⟩ := h3 g h
        exact ⟨g', List.mem_cons_of_mem _ h4, h5⟩
theorem GrpOk.add {f : Int → List Int} {ks : List Int} {G : Grp} (h : GrpOk f ks G) (k : Int) : GrpOk f (ks ++ [k]) (addG G (f k) k) where
  len := by have := addG_len G (f k) k; have := h.len; rw [List.length_append, List.length_singleton]; omega
  key := fun g hg x hx => by
    rcases addG_mem hg with ⟨h1, _⟩ | ⟨_, z⟩ | ⟨h1, ⟨r, h2, h3⟩ | h2⟩ | h1
    · exact ⟨List.mem_append_left _ (h.key g h1 x hx).1, (h.key g h1 x hx).2⟩
    · exact z.elim
    · rw [h3] at hx
      rcases List.mem_append.mp hx with hx | hx
      · have := h.key _ h2 x hx
        exact ⟨List.mem_append_left _ this.1, this.2.trans h1.symm⟩
      · rw [List.mem_singleton.mp hx]; exact ⟨by simp, h1.symm⟩
    · rw [h2] at hx
      rw [List.mem_singleton.mp hx]; exact ⟨by simp, h1.symm⟩
    · exact ⟨List.mem_append_left _ (h.key g h1 x hx).1, (h.key g h1 x hx).2⟩
  all := fun x hx => by
    rcases List.mem_append.mp hx with hx | hx
    · obtain ⟨g, h1, h2, h3⟩ := h.all x hx
      obtain ⟨g', h4, h5, h6⟩ := addG_has.2 g h1
      exact ⟨g', h4, h5.trans h2, h6 x h3⟩
    · rw [List.mem_singleton.mp hx]
      exact addG_has.1
  ne := fun g hg => by
    rcases addG_mem hg with ⟨h1, _⟩ | ⟨_, z⟩ | ⟨h1, ⟨r, h2, h3⟩ | h2⟩ | h1
    · exact h.ne g h1
    · exact z.elim
    · rw [h3]; simp
    · rw [h2]; simp
    · exact h.ne g h1
  cnt := fun g hg => by
    rw [List.length_append, List.length_singleton]
    rcases addG_mem hg with ⟨h1, _⟩ | ⟨_, z⟩ | ⟨h1, ⟨r, h2, h3⟩ | h2⟩ | h1
    · have := h.cnt g h1; omega
    · exact z.elim
    · rw [h3, List.length_append, List.length_singleton]; have : r.length ≤ _ := h.cnt _ h2; omega
    · rw [h2, List.length_singleton]; omega
    · have := h.cnt g h1; omega
  nd := by
    rw [addG_keys]
    split
    · exact h.nd
    · rename_i m
      rw [List.nodup_append]
      refine ⟨h.nd, by simp, fun a ha b hb e => m ?_⟩
      have this : b = f k := by simpa using hb
      rw [← this, ← e]; exact ha
theorem GrpOk.nil (f : Int → List Int) : GrpOk f [] [] where
  len := Nat.le_refl _
  key := fun g h => by cases h
  all := fun g h => by cases h
  ne := fun g h => by cases h
  cnt := fun g h => by cases h
  nd := List.nodup_nil
abbrev cpD (p : Int × Int) : D := .tup [.int p.1, .int p.2]
structure PrsOk (kvs : List (D × D)) (T : List (Int × Int)) : Prop where
  len : kvs.length ≤ T.length
  has : ∀ p : Int × Int, hasK kvs (nkI [p.1, p.2]) = decide (p ∈ T)
theorem PrsOk.nil : PrsOk [] [] := ⟨Nat.le_refl _, fun p => rfl⟩
theorem hasK_put (kvs : List (D × D)) (d v : D) (k k' : NestedKey) (hd : nkOf d = some k) : hasK (putD kvs d v k) k' = (hasK kvs k' || decide (k = k')) := by
  unfold putD
  cases e : hasK kvs k with
  | true =>
    rw [if_pos rfl]
    have : hasK (kvs.map fun p => if sameK k p = true then (p.1, v) else p) k' = hasK kvs k' := by
      unfold hasK
      rw [List.any_map]
      congr 1
      funext p
      show sameK k' (if sameK k p = true then (p.1, v) else p) = sameK k' p
      split <;> rfl
    rw [this]
    by_cases c : k = k'
    · subst c; rw [e]; simp
    · simp [c]
  | false =>
    rw [if_neg (by simp)]
    unfold hasK
    rw [List.any_append]
    congr 1
    show (sameK k' (d, v) || false) = _
    unfold sameK
    rw [Bool.or_false, hd]
    simp
theorem PrsOk.put {kvs : List (D × D)} {T : List (Int × Int)} {v : D} (h : PrsOk kvs T) (p : Int × Int) : PrsOk (putD kvs (cpD p) v (nkI [p.1, p.2])) (T ++ [p]) where
  len := by have := putD_len kvs (cpD p) v (nkI [p.1, p.2]); have := h.len; rw [List.length_append, List.length_singleton]; omega
  has := fun r => by
    rw [hasK_put kvs (cpD p) v _ (nkI [r.1, r.2]) (show nkOf (cpD p) = some (nkI [p.1, p.2]) from nk_tupI [p.1, p.2]), h.has r]
    by_cases c : p = r
    · subst c; simp
    · have : nkI [p.1, p.2] ≠ nkI [r.1, r.2] := fun z => c (by have := nkI_inj z; injection this with e1 e2; injection e2 with e2; exact Prod.ext e1 e2)
      simp [this, Ne.symm c]
end Px
set_option Elab.async false
set_option linter.all false
set_option maxRecDepth 100000
namespace Px
open PySem PySem.Spec PyProof.Rows L2
def shI (h n : Int) : Int := near (2 * h) n
theorem shI_rg {h n : Int} (hh : 0 < h) : 0 ≤ shI h n ∧ shI h n ≤ h := by
  have := near_bounds (s := 2 * h) (by omega) n
  unfold shI
  omega
theorem fold_one {h n : Int} : foldD h n 1 = .tup [.int (shI h n), .int 1] := by
  unfold foldD spd shI
  have e : ∀ x : Int, g0 x 1 = 1 := fun x => by unfold g0; rw [Int.gcd_one_right]; rfl
  rw [Int.mul_one, e]
  simp
structure GsG (gs : List (List Int)) : Prop where
  len : gs.length ≤ 4
  each : ∀ g ∈ gs, g.length ≤ 12 ∧ ∀ n ∈ g, 0 ≤ n ∧ n ≤ 5040
def kp (gs : List (List Int)) (h : Int) (p : Int → Bool) : List (List Int) := gs.map fun g => g.filter fun n => p (shI h n)
theorem GsG.kp {gs : List (List Int)} (o : GsG gs) (h : Int) (p : Int → Bool) : GsG (kp gs h p) where
  len := by unfold Px.kp; rw [List.length_map]; exact o.len
  each := fun g hg => by
    obtain ⟨g', h', rfl⟩ := List.mem_map.mp hg
    obtain ⟨o1, o2⟩ := o.each g' h'
    exact ⟨Nat.le_trans (List.length_filter_le _ _) o1, fun n hn => o2 n (List.mem_filter.mp hn).1⟩
def mixed (gs : List (List Int)) : Bool := decide (1 < ((gs.filter fun g => !g.isEmpty).length : Int))
def gsT (gs : List (List Int)) : D := .tup (gs.map tupI)
def gsL (gs : List (List Int)) : D := .lst (gs.map fun g => .lst (g.map .int))
def sp_look_at (C : Cl) : PSp := fun ds M q _ => ar2 ds fun a b => asI a fun h => asI b fun n => (1 ≤ h ∧ h ≤ 1000) ∧ (0 ≤ n ∧ n ≤ 5040) ∧ q (.int (shI h n)) M
def rd_look_at (C : Cl) : PTS := (dRet (dOp fIx (dCall (sp_folded C) [] (dCons (dVar 0) (dCons (dVar 1) (dCons (dC (.int 1)) dNil)))) (dC (.int 0))))
theorem sh_look_at (C : Cl) : Shows (sp_look_at C) 2 (rd_look_at C) := by
  intro ds M q e hh
  obtain ⟨a, b, rfl, hh⟩ := ar2_of hh
  obtain ⟨h, rfl, hh⟩ := asI_of hh
  obtain ⟨n, rfl, ⟨h0, h1⟩, ⟨n0, n1⟩, hq⟩ := asI_of hh
  refine ⟨⟨by omega, n0, by decide⟩, ⟨Int.le_trans h1 (by decide), by decide⟩, ?_⟩
  rw [fold_one]
  exact ⟨_, at0, M, MLe.refl M, hq⟩
def rd_copied (C : Cl) : PTS := (dRet (dB1 fTup (dL (dComp [1] (iA (dVar 0)) (gNm 1) dYes (dB1 fTup (dVar 1))))))
def sp_is_mixed (C : Cl) : PSp := fun ds M q _ => ar1 ds fun d => ∃ gs, d = gsT gs ∧ GsG gs ∧ q (.bl (mixed gs)) M
def rd_is_mixed (C : Cl) : PTS := (dRet (dOp fGt (dB1 fLen (dL (dComp [1] (iA (dVar 0)) (gNm 1) (dTst (dOp fNe (dVar 1) (dTup dNil))) (dVar 1)))) (dC (.int 1))))
theorem ne_tup0 (g : List Int) : eqD (tupI g) (.tup []) = g.isEmpty := by cases g <;> rfl
theorem ne_lst0 (g : List Int) : eqD (.lst (g.map .int)) (.lst []) = g.isEmpty := by cases g <;> rfl
theorem okD_tupI (g : List Int) : okD 50 (tupI g) = true := okD_ints (k := 49) g
theorem sh_is_mixed (C : Cl) : Shows (sp_is_mixed C) 2 (rd_is_mixed C) := by
  intro ds M q e hh
  obtain ⟨d, rfl, gs, rfl, o, hq⟩ := ar1_of hh
  have := o.len
  refine ⟨rfl, ?_⟩
  refine compR_sel (c := fun g : List Int => tupI g) (f := fun g => tupI g) (p := fun g => !g.isEmpty) _ (fun g hg κ kf hκ => ?_) (by omega) ?_
  · refine ⟨by decide, ?_⟩
    refine o2_ne (okD_tupI g) rfl _ ?_
    rw [ne_tup0]
    exact hκ
  · refine ⟨M, MLe.refl M, ?_⟩
    unfold mixed at hq
    rw [List.length_map]
    exact hq
def sp__law_mixed (C : Cl) : PSp := fun ds M q _ => ar1 ds fun d => ∃ gs, d = gsL gs ∧ GsG gs ∧ q (.bl (mixed gs)) M
def rd__law_mixed (C : Cl) : PTS := (dRet (dOp fGt (dB1 fLen (dL (dComp [1] (iA (dVar 0)) (gNm 1) (dTst (dOp fNe (dVar 1) (dL (dLst dNil)))) (dVar 1)))) (dC (.int 1))))
theorem sh__law_mixed (C : Cl) : Shows (sp__law_mixed C) 2 (rd__law_mixed C) := by
  intro ds M q e hh
  obtain ⟨d, rfl, gs, rfl, o, hq⟩ := ar1_of hh
  have := o.len
  refine ⟨rfl, ?_⟩
  refine compR_sel (c := fun g : List Int => D.lst (g.map .int)) (f := fun g => D.lst (g.map .int)) (p := fun g => !g.isEmpty) _ (fun g hg κ kf hκ => ?_) (by omega) ?_
  · refine ⟨by decide, ?_⟩
    refine o2_ne (okD_il g) rfl _ ?_
    rw [ne_lst0]
    exact hκ
  · refine ⟨M, MLe.refl M, ?_⟩
    unfold mixed at hq
    rw [List.length_map]
    exact hq
def sp__law_shown (C : Cl) : PSp := fun ds M q _ => ar2 ds fun a b => asI a fun h => asI b fun n => (1 ≤ h ∧ h ≤ 1000) ∧ (0 ≤ n ∧ n ≤ 5040) ∧ q (.int (shI h n)) M
def rd__law_shown (C : Cl) : PTS := (dSeq (dSet 2 (dOp fMod (dVar 1) (dOp fMul (dC (.int 2)) (dVar 0))))
    (dRet (dOp fMin2 (dVar 2) (dOp fSub (dOp fMul (dC (.int 2)) (dVar 0)) (dVar 2)))))
theorem sh__law_shown (C : Cl) : Shows (sp__law_shown C) 3 (rd__law_shown C) := by
  intro ds M q e hh
  obtain ⟨a, b, rfl, hh⟩ := ar2_of hh
  obtain ⟨h, rfl, hh⟩ := asI_of hh
  obtain ⟨n, rfl, ⟨h0, h1⟩, ⟨n0, n1⟩, hq⟩ := asI_of hh
  have hm : CMulX 2 h := mul_small (by decide) (by decide) (by omega) (by omega)
  refine ⟨hm, by omega, hm, ?_⟩
  refine ⟨M, MLe.refl M, ?_⟩
  have e : shI h n = (if 2 * h - n % (2 * h) < n % (2 * h) then 2 * h - n % (2 * h) else n % (2 * h)) := rfl
  rw [e] at hq
  exact hq
def eqV (v : D) (n : Int) : Bool := eqD (.int n) v
def sp_kept (C : Cl) : PSp := fun ds M q _ => ar3 ds fun d a v => asI a fun h => ∃ gs, d = gsT gs ∧ GsG gs ∧ (1 ≤ h ∧ h ≤ 1000) ∧ okD 50 v = true ∧ q (gsT (kp gs h (eqV v))) M
def rd_kept (C : Cl) : PTS := (dRet (dB1 fTup (dL (dComp [3] (iA (dVar 0)) (gNm 3) dYes (dB1 fTup (dL (dComp [4] (iA (dVar 3)) (gNm 4) (dTst (dOp fEq (dCall (sp_look_at C) [] (dCons (dVar 1) (dCons (dVar 4) dNil))) (dVar 2))) (dVar 4))))))))
theorem sh_kept (C : Cl) : Shows (sp_kept C) 5 (rd_kept C) := by
  intro ds M q e hh
  obtain ⟨d, a, v, rfl, hh⟩ := ar3_of hh
  obtain ⟨h, rfl, gs, rfl, o, hh2, hv, hq⟩ := asI_of hh
  have := o.len
  refine ⟨rfl, ?_⟩
  refine compR_on (c := fun g : List Int => tupI g) (f := fun g => tupI (g.filter fun n => eqV v (shI h n))) _ (fun g hg κ kf hκ => ?_) (by omega) ?_
  · obtain ⟨g1, g2⟩ := o.each g hg
    refine ⟨rfl, ?_⟩
    refine compR_sel (c := D.int) (f := D.int) (p := fun n => eqV v (shI h n)) _ (fun n hn κ' kf' hκ' => ?_) (by omega) hκ
    refine ⟨hh2, g2 n hn, ?_⟩
    refine (ev_var (w := w0) (i := 2) (d := v) rfl) _ ?_
    refine o2_eq (x := .int (shI h n)) rfl hv _ ?_
    exact hκ'
  · refine ⟨M, MLe.refl M, ?_⟩
    unfold kp gsT at hq
    rw [List.map_map] at hq
    exact hq
def sp__law_left (C : Cl) : PSp := fun ds M q _ => ar3 ds fun d a v => asI a fun h => ∃ gs, d = gsL gs ∧ GsG gs ∧ (1 ≤ h ∧ h ≤ 1000) ∧ okD 50 v = true ∧ q (gsL (kp gs h (eqV v))) M
def rd__law_left (C : Cl) : PTS := (dRet (dL (dComp [3] (iA (dVar 0)) (gNm 3) dYes (dL (dComp [4] (iA (dVar 3)) (gNm 4) (dTst (dOp fEq (dCall (sp__law_shown C) [] (dCons (dVar 1) (dCons (dVar 4) dNil))) (dVar 2))) (dVar 4))))))
theorem sh__law_left (C : Cl) : Shows (sp__law_left C) 5 (rd__law_left C) := by
  intro ds M q e hh
  obtain ⟨d, a, v, rfl, hh⟩ := ar3_of hh
  obtain ⟨h, rfl, gs, rfl, o, hh2, hv, hq⟩ := asI_of hh
  have := o.len
  refine ⟨rfl, ?_⟩
  refine compR_on (c := fun g : List Int => D.lst (g.map .int)) (f := fun g => D.lst ((g.filter fun n => eqV v (shI h n)).map .int)) _ (fun g hg κ kf hκ => ?_) (by omega) ?_
  · obtain ⟨g1, g2⟩ := o.each g hg
    refine ⟨rfl, ?_⟩
    refine compR_sel (c := D.int) (f := D.int) (p := fun n => eqV v (shI h n)) _ (fun n hn κ' kf' hκ' => ?_) (by omega) hκ
    refine ⟨hh2, g2 n hn, ?_⟩
    refine (ev_var (w := w0) (i := 2) (d := v) rfl) _ ?_
    refine o2_eq (x := .int (shI h n)) rfl hv _ ?_
    exact hκ'
  · refine ⟨M, MLe.refl M, ?_⟩
    unfold kp gsL at hq
    rw [List.map_map] at hq
    exact hq
def rd_values_at (C : Cl) : PTS := (dRet (dL (dSortL (dL (dComp2 [2, 3] [3] (iA (dVar 0)) (gNm 2) dYes (iA (dVar 2)) (gNm 3) dYes (dCall (sp_look_at C) [] (dCons (dVar 1) (dCons (dVar 3) dNil))))))))
end Px
set_option Elab.async false
set_option linter.all false
set_option maxRecDepth 100000
namespace Px
open PySem PySem.Spec PyProof.Rows L2
section
variable {X : Cx} {W : WX} {b e o f kx : Expr} {pb pe pk pv : PTE} {pos apos cpos p2 p3 p : Pos}
end
end Px
set_option Elab.async false
set_option linter.all false
set_option maxRecDepth 100000
namespace Px
open PySem PySem.Spec PyProof.Rows L2
def seenL (gs : List (List Int)) (h : Int) : List Int := gs.flatten.map (shI h)
def valsA (gs : List (List Int)) (h : Int) : List Int := (ixs 1001).filter fun v => decide (v ∈ seenL gs h)
def eqN (v : Int) : Int → Bool := fun n => decide (n = v)
def kpv (gs : List (List Int)) (h v : Int) : List (List Int) := kp gs h (eqN v)
theorem eqV_eqN (v : Int) : eqV (.int v) = eqN v := by
  funext n
  exact eqI n v
theorem ixs_has {n : Nat} {k : Int} (h0 : 0 ≤ k) (h1 : k < n) : k ∈ ixs n := by
  unfold ixs
  exact List.mem_map.mpr ⟨k.toNat, List.mem_range.mpr (by omega), by omega⟩
theorem ixs_asc (n : Nat) : asc (ixs n) := by
  unfold ixs
  refine List.pairwise_map.mpr (List.Pairwise.imp (fun h => ?_) List.pairwise_lt_range)
  exact Int.ofNat_lt.mpr h
theorem seenL_rg {gs : List (List Int)} {h v : Int} (hh : 1 ≤ h ∧ h ≤ 1000) (hv : v ∈ seenL gs h) : 0 ≤ v ∧ v ≤ h := by
  obtain ⟨n, _, rfl⟩ := List.mem_map.mp hv
  exact shI_rg (by omega)
theorem valsA_mem {gs : List (List Int)} {h v : Int} (hh : 1 ≤ h ∧ h ≤ 1000) : v ∈ valsA gs h ↔ v ∈ seenL gs h := by
  unfold valsA
  rw [List.mem_filter, decide_eq_true_eq]
  refine ⟨fun h => h.2, fun hv => ⟨?_, hv⟩⟩
  have := seenL_rg hh hv
  exact ixs_has (by omega) (by omega)
theorem valsA_asc (gs : List (List Int)) (h : Int) : asc (valsA gs h) := (ixs_asc _).sublist List.filter_sublist
theorem valsA_rg {gs : List (List Int)} {h v : Int} (hh : 1 ≤ h ∧ h ≤ 1000) (hv : v ∈ valsA gs h) : 0 ≤ v ∧ v ≤ h := seenL_rg hh ((valsA_mem hh).mp hv)
def opn (hs : List Int) : Nat → List (List Int) → Bool
  | 0, gs => mixed gs
  | m + 1, gs => mixed gs && hs.all fun h => (valsA gs h).any fun v => opn hs m (kpv gs h v)
theorem opn_mixed {hs : List Int} : ∀ {m : Nat} {gs : List (List Int)}, opn hs m gs = true → mixed gs = true
  | 0, _, h => h
  | m + 1, gs, h => by
    have h : (mixed gs && _) = true := h
    rw [Bool.and_eq_true] at h
    exact h.1
theorem free_some {hs : List Int} {gs : List (List Int)} {m : Nat} (hm : mixed gs = true) (ho : opn hs (m + 1) gs = false) : ∃ h ∈ hs, ∀ v ∈ valsA gs h, opn hs m (kpv gs h v) = false := by
  have ho : (mixed gs && hs.all fun h => (valsA gs h).any fun v => opn hs m (kpv gs h v)) = false := ho
  rw [hm, Bool.true_and, List.all_eq_false] at ho
  obtain ⟨h, hh, hv⟩ := ho
  refine ⟨h, hh, fun v hv' => ?_⟩
  have := (List.any_eq_false.mp (by simpa using hv)) v hv'
  simpa using this
def subs : List Int → List (List Int)
  | [] => [[]]
  | x :: r => subs r ++ (subs r).map (x :: ·)
def subG : List (List Int) → List (List (List Int))
  | [] => [[]]
  | g :: G => (subs g).flatMap fun s => (subG G).map (s :: ·)
theorem subs_len : ∀ l : List Int, (subs l).length = 2 ^ l.length
  | [] => rfl
  | x :: r => by
    show (subs r ++ (subs r).map (x :: ·)).length = _
    rw [List.length_append, List.length_map, subs_len r, List.length_cons, Nat.pow_succ]; omega
theorem subs_self : ∀ l : List Int, l ∈ subs l
  | [] => List.mem_singleton.mpr rfl
  | x :: r => List.mem_append_right _ (List.mem_map_of_mem (subs_self r))
theorem subs_filter (p : Int → Bool) : ∀ {l s : List Int}, s ∈ subs l → s.filter p ∈ subs l
  | [], s, h => by rw [List.mem_singleton.mp h]; exact List.mem_singleton.mpr rfl
  | x :: r, s, h => by
    rcases List.mem_append.mp h with h | h
    · exact List.mem_append_left _ (subs_filter p h)
    · obtain ⟨t, ht, rfl⟩ := List.mem_map.mp h
      rw [List.filter_cons]
      split
      · exact List.mem_append_right _ (List.mem_map_of_mem (subs_filter p ht))
      · exact List.mem_append_left _ (subs_filter p ht)
theorem subs_mem : ∀ {l s : List Int}, s ∈ subs l → s.length ≤ l.length ∧ ∀ n ∈ s, n ∈ l
  | [], s, h => by rw [List.mem_singleton.mp h]; exact ⟨Nat.le_refl _, fun n h => by cases h⟩
  | x :: r, s, h => by
    rcases List.mem_append.mp h with h | h
    · obtain ⟨h1, h2⟩ := subs_mem h
      exact ⟨Nat.le_succ_of_le h1, fun n hn => List.mem_cons_of_mem _ (h2 n hn)⟩
    · obtain ⟨t, ht, rfl⟩ := List.mem_map.mp h
      obtain ⟨h1, h2⟩ := subs_mem ht
      refine ⟨Nat.succ_le_succ h1, fun n hn => ?_⟩
      rcases List.mem_cons.mp hn with rfl | hn
      · exact List.mem_cons_self
      · exact List.mem_cons_of_mem _ (h2 n hn)
theorem fm_len {α β γ : Type} (f : α → β → γ) (L : List β) : ∀ l : List α, (l.flatMap fun s => L.map (f s)).length = l.length * L.length
  | [] => by simp
  | s :: l => by rw [List.flatMap_cons, List.length_append, List.length_map, fm_len f L l, List.length_cons, Nat.succ_mul]; omega
theorem subG_len : ∀ G : List (List Int), (subG G).length = 2 ^ G.flatten.length
  | [] => rfl
  | g :: G => by
    show ((subs g).flatMap fun s => (subG G).map (s :: ·)).length = _
    rw [fm_len, subs_len, subG_len G, List.flatten_cons, List.length_append, Nat.pow_add]
theorem subG_self : ∀ G : List (List Int), G ∈ subG G
  | [] => List.mem_singleton.mpr rfl
  | g :: G => List.mem_flatMap.mpr ⟨g, subs_self g, List.mem_map_of_mem (subG_self G)⟩
theorem subG_filter (p : Int → Bool) : ∀ {G gs : List (List Int)}, gs ∈ subG G → (gs.map fun g => g.filter p) ∈ subG G
  | [], gs, h => by rw [List.mem_singleton.mp h]; exact List.mem_singleton.mpr rfl
  | g :: G, gs, h => by
    obtain ⟨s, hs, h⟩ := List.mem_flatMap.mp h
    obtain ⟨t, ht, rfl⟩ := List.mem_map.mp h
    exact List.mem_flatMap.mpr ⟨s.filter p, subs_filter p hs, List.mem_map_of_mem (subG_filter p ht)⟩
theorem subG_kp {G gs : List (List Int)} {h : Int} {p : Int → Bool} (hg : gs ∈ subG G) : kp gs h p ∈ subG G := subG_filter (fun n => p (shI h n)) hg
theorem subG_each : ∀ {G gs : List (List Int)}, gs ∈ subG G → gs.length = G.length ∧ ∀ s ∈ gs, ∃ g ∈ G, s.length ≤ g.length ∧ ∀ n ∈ s, n ∈ g
  | [], gs, h => by rw [List.mem_singleton.mp h]; exact ⟨rfl, fun s h => by cases h⟩
  | g :: G, gs, h => by
    obtain ⟨s, hs, h⟩ := List.mem_flatMap.mp h
    obtain ⟨t, ht, rfl⟩ := List.mem_map.mp h
    obtain ⟨h1, h2⟩ := subG_each ht
    refine ⟨by rw [List.length_cons, List.length_cons, h1], fun u hu => ?_⟩
    rcases List.mem_cons.mp hu with rfl | hu
    · exact ⟨g, List.mem_cons_self, subs_mem hs⟩
    · obtain ⟨g', h', r⟩ := h2 u hu
      exact ⟨g', List.mem_cons_of_mem _ h', r⟩
theorem subG_g {G gs : List (List Int)} (o : GsG G) (h : gs ∈ subG G) : GsG gs where
  len := by rw [(subG_each h).1]; exact o.len
  each := fun s hs => by
    obtain ⟨g, hg, h1, h2⟩ := (subG_each h).2 s hs
    obtain ⟨o1, o2⟩ := o.each g hg
    exact ⟨Nat.le_trans h1 o1, fun n hn => o2 n (h2 n hn)⟩
theorem nd_len {α : Type} [DecidableEq α] : ∀ {L ns : List α}, L.Nodup → (∀ x ∈ L, x ∈ ns) → L.length ≤ ns.length
  | [], _, _, _ => Nat.zero_le _
  | x :: L, ns, hn, h => by
    obtain ⟨h1, h2⟩ := List.nodup_cons.mp hn
    have hx := h x List.mem_cons_self
    have ih := nd_len (L := L) (ns := ns.erase x) h2 fun y hy => by
      have : y ≠ x := fun z => h1 (z ▸ hy)
      exact (List.mem_erase_of_ne this).mpr (h y (List.mem_cons_of_mem _ hy))
    rw [List.length_erase_of_mem hx] at ih
    have : 0 < ns.length := List.length_pos_of_mem hx
    rw [List.length_cons]
    omega
def sp_values_atS (C : Cl) : PSp := fun ds M q _ => ar2 ds fun d a => asI a fun h => ∃ gs, d = gsT gs ∧ GsG gs ∧ (1 ≤ h ∧ h ≤ 1000) ∧ q (.lst ((valsA gs h).map .int)) M
theorem sh_values_atS (C : Cl) : Shows (sp_values_atS C) 4 (rd_values_at C) := by
  intro ds M q e hh
  obtain ⟨d, a, rfl, hh⟩ := ar2_of hh
  obtain ⟨h, rfl, gs, rfl, o, hh2, hq⟩ := asI_of hh
  have ol := o.len
  refine ⟨rfl, ?_⟩
  have key : ∀ (gs' : List (List Int)) (acc : List Int) (K : List D → Mm → Prop), (∀ g ∈ gs', g ∈ gs) → acc.length + 12 * gs'.length ≤ 48 → ((acc ++ seenL gs' h).length ≤ 48 → K ((acc ++ seenL gs' h).map .int) M) →
      compR2 (gNm 2) dYes (iA (dVar 2)) (gNm 3) dYes (dCall (sp_look_at C) [] (dCons (dVar 1) (dCons (dVar 3) dNil))) [3] [some (.val (gsT gs)), some (.val (.int h)), none, none] (gs'.map tupI) (acc.map .int) M K := by
    intro gs'
    induction gs' with
    | nil => intro acc K _ hl hK; have hK := hK (by simpa [seenL] using hl); rw [show seenL [] h = [] from rfl, List.append_nil] at hK; exact hK
    | cons g gs' ih =>
      intro acc K hs hl hK
      rw [List.length_cons] at hl
      obtain ⟨g1, g2⟩ := o.each g (hs g List.mem_cons_self)
      show compR2 _ _ _ _ _ _ _ _ (tupI g :: gs'.map tupI) (acc.map .int) M K
      unfold compR2
      have inner : ∀ (r : List Int) (acc' : List Int) (y : Option Sv) (K' : List D → Mm → Prop), (∀ n ∈ r, n ∈ g) → acc'.length + r.length ≤ acc.length + 12 → K' ((acc' ++ r.map (shI h)).map .int) M →
          compR (gNm 3) dYes (dCall (sp_look_at C) [] (dCons (dVar 1) (dCons (dVar 3) dNil))) [some (.val (gsT gs)), some (.val (.int h)), y, none] (r.map .int) (acc'.map .int) M K' := by
        intro r
        induction r with
        | nil => intro acc' y K' _ _ hK'; rw [List.map_nil, List.append_nil] at hK'; exact hK'
        | cons n r ih' =>
          intro acc' y K' hs' hl' hK'
          rw [List.length_cons] at hl'
          have hn := g2 n (hs' n List.mem_cons_self)
          refine ⟨hh2, hn, by rw [List.length_map]; omega, ?_⟩
          have e : acc'.map D.int ++ [.int (shI h n)] = (acc' ++ [shI h n]).map .int := by rw [List.map_append]; rfl
          rw [e]
          refine ih' (acc' ++ [shI h n]) y K' (fun m hm => hs' m (List.mem_cons_of_mem _ hm)) (by rw [List.length_append, List.length_singleton]; omega) ?_
          rw [List.append_assoc]; exact hK'
      refine inner g acc _ _ (fun n h => h) (by omega) ?_
      refine ih (acc ++ g.map (shI h)) K (fun g' h' => hs g' (List.mem_cons_of_mem _ h')) (by rw [List.length_append, List.length_map]; omega) fun hl2 => ?_
      have e : (acc ++ g.map (shI h)) ++ seenL gs' h = acc ++ seenL (g :: gs') h := by
        unfold seenL
        rw [List.flatten_cons, List.map_append, List.append_assoc]
      rw [e] at hl2 ⊢
      exact hK hl2
  refine key gs [] _ (fun g h => h) (by rw [List.length_nil]; omega) fun hl => ?_
  rw [List.nil_append] at hl ⊢
  refine ⟨seenL gs h, .inl rfl, by omega, fun ms m1 m2 m3 => ⟨M, MLe.refl M, ?_⟩⟩
  have : ms = valsA gs h := asc_uniq m1 (valsA_asc gs h) fun k => (m2 k).trans (valsA_mem hh2).symm
  rw [this]
  exact hq
end Px
set_option Elab.async false
set_option linter.all false
set_option maxRecDepth 100000
namespace Px
open PySem PySem.Spec PyProof.Rows L2
theorem all_of3 {l : List D} {bs : List Bool} {k : D → Prop} (e : l = bs.map .bl) (h : k (.bl (bs.all id))) : fAll (.lst l) k := by
  subst e
  unfold fAll
  dsimp only
  rw [boolsOf_map]
  exact h
def Oth (a : Addr) (M M' : Mm) : Prop := ∀ c mo, c ≠ a → M c = some mo → M' c = some mo
theorem Oth.refl (a : Addr) (M : Mm) : Oth a M M := fun _ _ _ h => h
theorem Oth.trans {a : Addr} {M M1 M2 : Mm} (h : Oth a M M1) (k : Oth a M1 M2) : Oth a M M2 := fun c mo n e => k c mo n (h c mo n e)
theorem comp_nm {i : Nat} {te : PTE} {ρ : Rho} {d : D} {r acc : List D} {M : Mm} {q : List D → Mm → Prop} (h : te w0 (st ρ i (.val d)) M fun y M2 => acc.length < 1000000 ∧ compR (gNm i) dYes te ρ r (acc ++ [y]) M2 q) : compR (gNm i) dYes te ρ (d :: r) acc M q := h
def nkG (gs : List (List Int)) (m : Int) : NestedKey := .tup [.tup (gs.map nkI), .num m]
theorem nk_gs : ∀ gs : List (List Int), nkOfL (gs.map tupI) = some (gs.map nkI)
  | [] => rfl
  | g :: gs => by
    show (match nkOf (tupI g), nkOfL (gs.map tupI) with | some a, some b => some (a :: b) | _, _ => none) = _
    rw [nk_tupI, nk_gs gs]; rfl
theorem nk_key (gs : List (List Int)) (m : Int) : nkOf (.tup [gsT gs, .int m]) = some (nkG gs m) := by
  have e : nkOf (gsT gs) = some (.tup (gs.map nkI)) := by
    show (nkOfL (gs.map tupI)).map NestedKey.tup = _
    rw [nk_gs]; rfl
  show (match nkOf (gsT gs), nkOfL [.int m] with | some a, some b => some (a :: b) | _, _ => none).map NestedKey.tup = _
  rw [e]; rfl
theorem dep_gs : ∀ gs : List (List Int), NestedKey.depthAll (gs.map nkI) ≤ 1
  | [] => Nat.zero_le _
  | g :: gs => by
    show max (NestedKey.depth (nkI g)) (NestedKey.depthAll (gs.map nkI)) ≤ 1
    have := dep_gs gs
    have h2 := dep_nums g
    have e : NestedKey.depth (nkI g) = NestedKey.depthAll (g.map .num) + 1 := by simp [nkI, NestedKey.depth]
    rw [e]; omega
theorem key_gs {gs : List (List Int)} {m : Int} {f : NestedKey → Prop} (h : f (nkG gs m)) : asKey (.tup [gsT gs, .int m]) f := by
  show (match nkOf (.tup [gsT gs, .int m]) with | some k => k.depth ≤ 8 ∧ f k | none => False)
  rw [nk_key]
  refine ⟨?_, h⟩
  have := dep_gs gs
  have e : NestedKey.depth (nkG gs m) = max (NestedKey.depthAll (gs.map nkI) + 1) 0 + 1 := by simp [nkG, NestedKey.depth, NestedKey.depthAll]
  rw [e]; omega
def ar5 (ds : List D) (f : D → D → D → D → D → Prop) : Prop := match ds with | [a, b, c, d, e] => f a b c d e | _ => False
theorem ar5_of {ds : List D} {f : D → D → D → D → D → Prop} (h : ar5 ds f) : ∃ a b c d e, ds = [a, b, c, d, e] ∧ f a b c d e := by
  unfold ar5 at h
  split at h
  · exact ⟨_, _, _, _, _, rfl, h⟩
  · exact h.elim
theorem if_call {sp : PSp} {pl : PTA} {w : PWi} {P : PEnds} {ρ : Rho} {M : Mm} {ds : List D} {s s' : PTS} {R : Bool → Mm → Prop} (ea : EvA pl w ρ M ds) (hs : ∀ q e, (∀ b M', R b M' → q (.bl b) M') → sp (ds ++ []) M q e)
    (ht : ∀ M', R true M' → s w P ρ M') (hf : ∀ M', R false M' → s' w P ρ M') : dIfS (dTst (dCall sp [] pl)) s s' w P ρ M := ea _ (hs _ _ fun b M' r => by
  cases b
  · exact hf M' r
  · exact ht M' r)
theorem call_ev {sp : PSp} {pl : PTA} {w : PWi} {ρ : Rho} {M : Mm} {ds : List D} {q : PQ} {R : D → Mm → Prop} (ea : EvA pl w ρ M ds) (hs : ∀ q e, (∀ v M', R v M' → q v M') → sp (ds ++ []) M q e)
    (k : ∀ v M', R v M' → q v M') : dCall sp [] pl w ρ M q := ea _ (hs _ _ k)
theorem nks_inj : ∀ {gs gs' : List (List Int)}, gs.map nkI = gs'.map nkI → gs = gs'
  | [], [], _ => rfl
  | [], _ :: _, h => by cases h
  | _ :: _, [], h => by cases h
  | g :: gs, g' :: gs', h => by
    rw [List.map_cons, List.map_cons] at h
    injection h with h1 h2
    rw [nkI_inj h1, nks_inj h2]
theorem nkG_inj {gs gs' : List (List Int)} {m m' : Int} (h : nkG gs m = nkG gs' m') : gs = gs' ∧ m = m' := by
  unfold nkG at h
  injection h with h
  injection h with h1 h2
  injection h1 with h1
  injection h2 with h2 _
  injection h2 with h2
  exact ⟨nks_inj h1, h2⟩
def knE (hs : List Int) (x : List (List Int) × Nat) : D × D := (.tup [gsT x.1, .int (x.2 : Nat)], .bl (opn hs x.2 x.1))
def KS (hs : List Int) (G : List (List Int)) (c : Addr) (M : Mm) : Prop := ∃ L : List (List (List Int) × Nat), M c = some (.dct (L.map (knE hs))) ∧ L.Nodup ∧ ∀ x ∈ L, x.1 ∈ subG G ∧ x.2 ≤ 6
structure G12 (G : List (List Int)) : Prop where
  g : GsG G
  tot : G.flatten.length ≤ 12
theorem kn_len {G : List (List Int)} (o : G12 G) {L : List (List (List Int) × Nat)} (nd : L.Nodup) (h : ∀ x ∈ L, x.1 ∈ subG G ∧ x.2 ≤ 6) : L.length ≤ 28672 := by
  have h1 := nd_len (ns := (subG G).flatMap fun gs => (List.range 7).map fun m => (gs, m)) nd fun x hx => List.mem_flatMap.mpr ⟨x.1, (h x hx).1, List.mem_map.mpr ⟨x.2, List.mem_range.mpr (by have := (h x hx).2; omega), rfl⟩⟩
  rw [fm_len (fun gs m => (gs, m)) (List.range 7) (subG G), subG_len, List.length_range] at h1
  have h2 : 2 ^ G.flatten.length ≤ 2 ^ 12 := Nat.pow_le_pow_right (by decide) o.tot
  omega
theorem same_kn {hs : List Int} {x : List (List Int) × Nat} {gs : List (List Int)} {m : Nat} : sameK (nkG gs (m : Nat)) (knE hs x) = decide (x = (gs, m)) := by
  unfold sameK knE
  rw [nk_key]
  by_cases c : x = (gs, m)
  · rw [decide_eq_true c, c]; exact decide_eq_true rfl
  · rw [decide_eq_false c]
    refine decide_eq_false fun z => c ?_
    obtain ⟨h1, h2⟩ := nkG_inj (Option.some.inj z)
    have : x.2 = m := by omega
    rw [← h1, ← this]
theorem has_kn {hs : List Int} {gs : List (List Int)} {m : Nat} : ∀ L : List (List (List Int) × Nat), hasK (L.map (knE hs)) (nkG gs (m : Nat)) = decide ((gs, m) ∈ L)
  | [] => rfl
  | x :: L => by
    have ih := has_kn (hs := hs) (gs := gs) (m := m) L
    unfold hasK at ih ⊢
    rw [List.map_cons, List.any_cons, ih, same_kn]
    by_cases c : x = (gs, m)
    · rw [decide_eq_true c, c, Bool.true_or]; exact (decide_eq_true List.mem_cons_self).symm
    · rw [decide_eq_false c, Bool.false_or]
      have : (gs, m) ∈ x :: L ↔ (gs, m) ∈ L := by rw [List.mem_cons]; exact ⟨fun h => h.elim (fun z => absurd z.symm c) id, .inr⟩
      by_cases d : (gs, m) ∈ L
      · rw [decide_eq_true d, decide_eq_true (this.mpr d)]
      · rw [decide_eq_false d, decide_eq_false (fun z => d (this.mp z))]
theorem look_kn {hs : List Int} {gs : List (List Int)} {m : Nat} : ∀ {L : List (List (List Int) × Nat)}, (gs, m) ∈ L → lookK (L.map (knE hs)) (nkG gs (m : Nat)) = some (.bl (opn hs m gs))
  | [], h => by cases h
  | x :: L, h => by
    unfold lookK
    rw [List.map_cons, List.find?_cons, same_kn]
    by_cases c : x = (gs, m)
    · rw [decide_eq_true c, c]; rfl
    · rw [decide_eq_false c]
      rcases List.mem_cons.mp h with z | z
      · exact absurd z.symm c
      · exact look_kn z
theorem put_kn {hs : List Int} {gs : List (List Int)} {m : Nat} (L : List (List (List Int) × Nat)) : putD (L.map (knE hs)) (.tup [gsT gs, .int (m : Nat)]) (.bl (opn hs m gs)) (nkG gs (m : Nat)) = (if (gs, m) ∈ L then L else L ++ [(gs, m)]).map (knE hs) := by
  unfold putD
  rw [has_kn]
  by_cases c : (gs, m) ∈ L
  · rw [decide_eq_true c, if_pos rfl, if_pos c, List.map_map]
    refine List.map_congr_left fun x hx => ?_
    show (if sameK (nkG gs (m : Nat)) (knE hs x) = true then ((knE hs x).1, D.bl (opn hs m gs)) else knE hs x) = knE hs x
    rw [same_kn]
    by_cases d : x = (gs, m)
    · rw [if_pos (decide_eq_true d), d]; rfl
    · rw [if_neg (by simpa using d)]
  · rw [decide_eq_false c, if_neg (by simp), if_neg c, List.map_append]; rfl
theorem KS.put {hs : List Int} {G gs : List (List Int)} {c : Addr} {M : Mm} {m : Nat} {L : List (List (List Int) × Nat)} (nd : L.Nodup) (h : ∀ x ∈ L, x.1 ∈ subG G ∧ x.2 ≤ 6) (hg : gs ∈ subG G) (hm : m ≤ 6) :
    KS hs G c (updM M c (.dct (putD (L.map (knE hs)) (.tup [gsT gs, .int (m : Nat)]) (.bl (opn hs m gs)) (nkG gs (m : Nat))))) := by
  rw [put_kn]
  refine ⟨_, updM_same, ?_, ?_⟩
  · split
    · exact nd
    · rename_i c
      exact List.nodup_append.mpr ⟨nd, by simp, fun a ha b hb z => c (by rw [← List.mem_singleton.mp hb, ← z]; exact ha)⟩
  · intro x hx
    split at hx
    · exact h x hx
    · rcases List.mem_append.mp hx with z | z
      · exact h x z
      · rw [List.mem_singleton.mp z]; exact ⟨hg, hm⟩
def ovN (hs : List Int) (m : Nat) (gs : List (List Int)) (h : Int) : Option Int := (valsA gs h).find? fun v => opn hs m (kpv gs h v)
def optD : Option Int → D
  | some v => .int v
  | none => .non
def spn_is_open_for (C : Cl) : Nat → PSp
  | 0 => spNever
  | n + 1 => fun ds M q _ => ar4 ds fun a d x k => asI x fun m => ∃ hs G gs c, a = .lst (hs.map .int) ∧ HsOk hs ∧ G12 G ∧ d = gsT gs ∧ gs ∈ subG G ∧ 0 ≤ m ∧ m ≤ n ∧ m ≤ 6 ∧ k = .raw (.ref c) ∧ KS hs G c M ∧ ∀ M', Oth c M M' → KS hs G c M' → q (.bl (opn hs m.toNat gs)) M'
def sp_is_open_for (C : Cl) : PSp := spn_is_open_for C 7
theorem ln_is_open_for (C : Cl) : ∀ n ds M q e, spn_is_open_for C n ds M q e → ds.length = 4
  | 0, _, _, _, _, h => h.elim
  | n + 1, ds, M, q, e, h => by obtain ⟨_, _, _, _, rfl, _⟩ := ar4_of h; rfl
def spn_open_value (C : Cl) (n : Nat) : PSp := fun ds M q _ => ar5 ds fun a d y x k => asI y fun h => asI x fun m => ∃ hs G gs c, a = .lst (hs.map .int) ∧ HsOk hs ∧ G12 G ∧ d = gsT gs ∧ gs ∈ subG G ∧ (1 ≤ h ∧ h ≤ 1000) ∧ 0 ≤ m ∧ m + 1 ≤ n ∧ m ≤ 6 ∧ k = .raw (.ref c) ∧ KS hs G c M ∧ ∀ M', Oth c M M' → KS hs G c M' → q (optD (ovN hs m.toNat gs h)) M'
def sp_open_value (C : Cl) : PSp := spn_open_value C 7
theorem ln_open_value (C : Cl) (n : Nat) (ds : List D) (M : Mm) (q : PQ) (e : PX) (h : spn_open_value C n ds M q e) : ds.length = 5 := by
  obtain ⟨_, _, _, _, _, rfl, _⟩ := ar5_of h; rfl
def rd_open_value (C : Cl) (n : Nat) : PTS := (dSeq (dFor (iA (dCall (sp_values_atS C) [] (dCons (dVar 1) (dCons (dVar 2) dNil)))) (gNm 5) (dIfS (dTst (dCall (spn_is_open_for C n) [] (dCons (dVar 0) (dCons (dCall (sp_kept C) [] (dCons (dVar 1) (dCons (dVar 2) (dCons (dVar 5) dNil)))) (dCons (dVar 3) (dCons (dVar 4) dNil)))))) (dRet (dVar 5)) dNext))
    (dRet (dC .non)))
theorem shn_open_value (C : Cl) (n : Nat) : Shows (spn_open_value C n) 6 (rd_open_value C n) := by
  intro ds M q e hh
  obtain ⟨a, d, y, x, k, rfl, hh⟩ := ar5_of hh
  obtain ⟨h, rfl, hh⟩ := asI_of hh
  obtain ⟨m, rfl, hs, G, gs, c, rfl, oh, o, rfl, hg, rh, m0, m1, m6, rfl, kn, hq⟩ := asI_of hh
  clear hh
  have og := subG_g o.g hg
  obtain ⟨n, rfl⟩ : ∃ n', n = n' + 1 := ⟨n - 1, by omega⟩
  refine sqStep ?_
  refine ⟨gs, rfl, og, rh, ?_⟩
  have key : ∀ (w : PWi) (P : PEnds) (r : List Int), (∀ v M', r.find? (fun v => opn hs m.toNat (kpv gs h v)) = some v → Oth c M M' → KS hs G c M' → P.rt (.int v) M') → (r.find? (fun v => opn hs m.toNat (kpv gs h v)) = none → ∀ ρ M', Oth c M M' → KS hs G c M' → P.nx ρ M') →
      ∀ (M1 : Mm) (y5 : Option Sv), KS hs G c M1 → Oth c M M1 →
      forR (gNm 5) (dIfS (dTst (dCall (spn_is_open_for C (n + 1)) [] (dCons (dVar 0) (dCons (dCall (sp_kept C) [] (dCons (dVar 1) (dCons (dVar 2) (dCons (dVar 5) dNil)))) (dCons (dVar 3) (dCons (dVar 4) dNil)))))) (dRet (dVar 5)) dNext) w (r.map .int) P
        [some (.val (.lst (hs.map .int))), some (.val (gsT gs)), some (.val (.int h)), some (.val (.int m)), some (.val (.raw (.ref c))), y5] M1 := by
    intro w P r
    induction r with
    | nil => intro hrt hnx M1 y5 hk ho; exact hnx rfl _ _ ho hk
    | cons v r ih =>
      intro hrt hnx M1 y5 hk ho
      show dIfS (dTst (dCall (spn_is_open_for C (n + 1)) [] (dCons (dVar 0) (dCons (dCall (sp_kept C) [] (dCons (dVar 1) (dCons (dVar 2) (dCons (dVar 5) dNil)))) (dCons (dVar 3) (dCons (dVar 4) dNil)))))) (dRet (dVar 5)) dNext w _ [some (.val (.lst (hs.map .int))), some (.val (gsT gs)), some (.val (.int h)), some (.val (.int m)), some (.val (.raw (.ref c))), some (.val (.int v))] M1
      have ea : EvA (dCons (dVar 0) (dCons (dCall (sp_kept C) [] (dCons (dVar 1) (dCons (dVar 2) (dCons (dVar 5) dNil)))) (dCons (dVar 3) (dCons (dVar 4) dNil)))) w [some (.val (.lst (hs.map .int))), some (.val (gsT gs)), some (.val (.int h)), some (.val (.int m)), some (.val (.raw (.ref c))), some (.val (.int v))] M1 [.lst (hs.map .int), gsT (kpv gs h v), .int m, .raw (.ref c)] :=
        eva_cons (ev_var rfl) (eva_cons (ev_call (eva_cons (ev_var rfl) (eva_cons (ev_var rfl) (eva_cons (ev_var rfl) eva_nil))) fun q e hq => ⟨gs, rfl, og, rh, rfl, by rw [eqV_eqN]; exact hq⟩) (eva_cons (ev_var rfl) (eva_cons (ev_var rfl) eva_nil)))
      refine if_call (R := fun b M2 => b = opn hs m.toNat (kpv gs h v) ∧ Oth c M1 M2 ∧ KS hs G c M2) ea (fun q e hq => ⟨hs, G, _, c, rfl, oh, o, rfl, subG_kp hg, m0, by omega, m6, rfl, hk, fun M2 ho2 hk2 => hq _ M2 ⟨rfl, ho2, hk2⟩⟩) (fun M2 ⟨hb, ho2, hk2⟩ => ?_) (fun M2 ⟨hb, ho2, hk2⟩ => ?_)
      · exact hrt v M2 (by rw [List.find?_cons, ← hb]) (ho.trans ho2) hk2
      · have e : (v :: r).find? (fun v => opn hs m.toNat (kpv gs h v)) = r.find? (fun v => opn hs m.toNat (kpv gs h v)) := by rw [List.find?_cons, ← hb]
        rw [e] at hrt hnx
        exact ih hrt hnx M2 _ hk2 (ho.trans ho2)
  refine key _ _ (valsA gs h) ?_ ?_ M none kn (Oth.refl _ _)
  · intro v M' hf h2 h3
    have e : ovN hs m.toNat gs h = some v := hf
    have := hq M' h2 h3
    rw [e] at this
    exact ⟨M', MLe.refl _, this⟩
  · intro hf ρ M' h2 h3
    have e : ovN hs m.toNat gs h = none := hf
    have := hq M' h2 h3
    rw [e] at this
    exact ⟨M', MLe.refl _, this⟩
def rd_is_open_for (C : Cl) (n : Nat) : PTS := (dSeq (dIfS (dOr (dNot (dTst (dCall (sp_is_mixed C) [] (dCons (dVar 1) dNil)))) (dTst (dOp fEq (dVar 2) (dC (.int 0))))) (dRet (dCall (sp_is_mixed C) [] (dCons (dVar 1) dNil))) dNext)
    (dSeq (dIfS (dTst (dInN true (dTup (dCons (dVar 1) (dCons (dVar 2) dNil))) (dVar 3))) (dSeq (dSet 4 (dL (dComp [5] (iA (dVar 0)) (gNm 5) dYes (dCall (spn_open_value C n) [] (dCons (dVar 0) (dCons (dVar 1) (dCons (dVar 5) (dCons (dOp fSub (dVar 2) (dC (.int 1))) (dCons (dVar 3) dNil)))))))))
    (dPutN (dB1 fAll (dL (dComp [6] (iA (dVar 4)) (gNm 6) dYes (dOp fIsNot (dVar 6) (dC .non))))) (dVar 3) (dTup (dCons (dVar 1) (dCons (dVar 2) dNil))))) dNext)
    (dRet (dGetN (dVar 3) (dTup (dCons (dVar 1) (dCons (dVar 2) dNil)))))))
theorem opt_nr (o : Option Int) : noRaw (optD o) = true := by cases o <;> rfl
theorem opt_isN (o : Option Int) : (!isN (optD o)) = o.isSome := by cases o <;> rfl
theorem find_any (p : Int → Bool) : ∀ l : List Int, (l.find? p).isSome = l.any p
  | [] => rfl
  | x :: l => by
    rw [List.find?_cons, List.any_cons]
    cases e : p x with
    | true => rfl
    | false => rw [Bool.false_or]; exact find_any p l
theorem ov_any (hs : List Int) (m : Nat) (gs : List (List Int)) (h : Int) : (ovN hs m gs h).isSome = (valsA gs h).any fun v => opn hs m (kpv gs h v) := by
  unfold ovN
  exact find_any _ _
theorem shn_is_open_for (C : Cl) (n : Nat) : Shows (spn_is_open_for C (n + 1)) 7 (rd_is_open_for C n) := by
  intro ds M q e hh
  obtain ⟨a, d, x, k, rfl, hh⟩ := ar4_of hh
  obtain ⟨m, rfl, hs, G, gs, c, rfl, oh, o, rfl, hg, m0, m1, m6, rfl, kn, hq⟩ := asI_of hh
  clear hh
  have og := subG_g o.g hg
  have emx : ∀ (w : PWi), Ev (dCall (sp_is_mixed C) [] (dCons (dVar 1) dNil)) w [some (.val (.lst (hs.map .int))), some (.val (gsT gs)), some (.val (.int m)), some (.val (.raw (.ref c))), none, none, none] M (.bl (mixed gs)) := fun w => ev_call (eva_cons (ev_var rfl) eva_nil) fun q e hq => ⟨gs, rfl, og, hq⟩
  have em : ∀ (w : PWi), EvT (dTst (dOp fEq (dVar 2) (dC (.int 0)))) w [some (.val (.lst (hs.map .int))), some (.val (gsT gs)), some (.val (.int m)), some (.val (.raw (.ref c))), none, none, none] M (decide (m = 0)) := fun w => evt (ev_op (ev_var rfl) ev_c o2_eqI)
  by_cases c0 : mixed gs = true ∧ m ≠ 0
  case neg =>
    have e1 : ∀ (w : PWi), EvT (dOr (dNot (dTst (dCall (sp_is_mixed C) [] (dCons (dVar 1) dNil)))) (dTst (dOp fEq (dVar 2) (dC (.int 0))))) w [some (.val (.lst (hs.map .int))), some (.val (gsT gs)), some (.val (.int m)), some (.val (.raw (.ref c))), none, none, none] M true := fun w =>
      evt_or (evt_not (evt (emx w))) (fun _ => em w) (by
        cases cm : mixed gs with
        | false => rfl
        | true =>
          have : m = 0 := Decidable.byContradiction fun z => c0 ⟨cm, z⟩
          rw [decide_eq_true this]; rfl)
    have eo : opn hs m.toNat gs = mixed gs := by
      cases cm : mixed gs with
      | false =>
        cases eo : opn hs m.toNat gs with
        | false => rfl
        | true => rw [opn_mixed eo] at cm; cases cm
      | true =>
        have : m = 0 := Decidable.byContradiction fun z => c0 ⟨cm, z⟩
        rw [this]; exact cm
    have hq2 := hq M (Oth.refl _ _) kn
    rw [eo] at hq2
    refine sqIfTR (e1 _) (emx _) ?_
    exact ⟨M, MLe.refl _, hq2⟩
  obtain ⟨cm, cz⟩ := c0
  rw [cm] at emx
  rw [decide_eq_false cz] at em
  refine sqIfFN (evt_orF (evt_not (evt (emx _))) (em _)) ?_
  obtain ⟨n, rfl⟩ : ∃ n', n = n' + 1 := ⟨n - 1, by omega⟩
  obtain ⟨k, hk⟩ : ∃ k, m.toNat = k + 1 := ⟨m.toNat - 1, by omega⟩
  have hk2 : (m - 1).toNat = k := by omega
  have hmk : m = ((k + 1 : Nat) : Int) := by omega
  rw [hk] at hq
  obtain ⟨L, hM, nd, ok⟩ := kn
  have eky : ∀ (w : PWi) (x4 : Option Sv) (M' : Mm), Ev (dTup (dCons (dVar 1) (dCons (dVar 2) dNil))) w [some (.val (.lst (hs.map .int))), some (.val (gsT gs)), some (.val (.int m)), some (.val (.raw (.ref c))), x4, none, none] M' (.tup [gsT gs, .int m]) := fun w x4 M' => ev_tup (eva_cons (ev_var rfl) (eva_cons (ev_var rfl) eva_nil)) (by show 2 ≤ 1000000; decide)
  have ekn : ∀ (w : PWi) (x4 : Option Sv) (M' : Mm), Ev (dVar 3) w [some (.val (.lst (hs.map .int))), some (.val (gsT gs)), some (.val (.int m)), some (.val (.raw (.ref c))), x4, none, none] M' (.raw (.ref c)) := fun w x4 M' => ev_var rfl
  have ein : ∀ (w : PWi), EvT (dTst (dInN true (dTup (dCons (dVar 1) (dCons (dVar 2) dNil))) (dVar 3))) w [some (.val (.lst (hs.map .int))), some (.val (gsT gs)), some (.val (.int m)), some (.val (.raw (.ref c))), none, none, none] M (!decide ((gs, k + 1) ∈ L)) := fun w q hq => by
    unfold dTst dInN
    refine eky w none M _ ?_
    refine ekn w none M _ ?_
    refine dct_at hM (key_gs ?_)
    show q (!hasK (L.map (knE hs)) (nkG gs m)) M
    rw [hmk, has_kn]
    exact hq
  have fin : ∀ (w : PWi) (P : PEnds) (x4 : Option Sv) (M' : Mm) (L' : List (List (List Int) × Nat)), M' c = some (.dct (L'.map (knE hs))) → (gs, k + 1) ∈ L' → P.rt (.bl (opn hs (k + 1) gs)) M' → dRet (dGetN (dVar 3) (dTup (dCons (dVar 1) (dCons (dVar 2) dNil)))) w P [some (.val (.lst (hs.map .int))), some (.val (gsT gs)), some (.val (.int m)), some (.val (.raw (.ref c))), x4, none, none] M' := fun w P x4 M' L' h1 h2 h3 => by
    unfold dRet dGetN
    refine ekn w x4 M' _ ?_
    refine eky w x4 M' _ ?_
    refine dct_at h1 (key_gs ⟨_, ?_, h3⟩)
    rw [hmk]
    exact look_kn h2
  cases ch : decide ((gs, k + 1) ∈ L) with
  | true =>
    rw [ch] at ein
    refine sqIfFN (ein _) ?_
    exact fin _ _ _ _ _ hM (of_decide_eq_true ch) ⟨M, MLe.refl _, hq M (Oth.refl _ _) ⟨L, hM, nd, ok⟩⟩
  | false =>
    rw [ch] at ein
    refine sqIfT (ein _) ?_
    have key : ∀ (r : List Int) (acc : List D) (M1 : Mm) (K : List D → Mm → Prop), (∀ h ∈ r, 1 ≤ h ∧ h ≤ 1000) → acc.length + r.length ≤ 6 → KS hs G c M1 → Oth c M M1 →
        (∀ M2, KS hs G c M2 → Oth c M M2 → K (acc ++ r.map fun h => optD (ovN hs k gs h)) M2) →
        compR (gNm 5) dYes (dCall (spn_open_value C (n + 1)) [] (dCons (dVar 0) (dCons (dVar 1) (dCons (dVar 5) (dCons (dOp fSub (dVar 2) (dC (.int 1))) (dCons (dVar 3) dNil)))))) [some (.val (.lst (hs.map .int))), some (.val (gsT gs)), some (.val (.int m)), some (.val (.raw (.ref c))), none, none, none] (r.map .int) acc M1 K := by
      intro r
      induction r with
      | nil => intro acc M1 K hr hl hk ho hK; have := hK M1 hk ho; rw [List.map_nil, List.append_nil] at this; exact this
      | cons h r ih =>
        intro acc M1 K hr hl hk ho hK
        rw [List.length_cons] at hl
        have ea : EvA (dCons (dVar 0) (dCons (dVar 1) (dCons (dVar 5) (dCons (dOp fSub (dVar 2) (dC (.int 1))) (dCons (dVar 3) dNil))))) w0 [some (.val (.lst (hs.map .int))), some (.val (gsT gs)), some (.val (.int m)), some (.val (.raw (.ref c))), none, some (.val (.int h)), none] M1 [.lst (hs.map .int), gsT gs, .int h, .int (m - 1), .raw (.ref c)] :=
          eva_cons (ev_var rfl) (eva_cons (ev_var rfl) (eva_cons (ev_var rfl) (eva_cons (ev_op (ev_var rfl) ev_c o2_sub) (eva_cons (ev_var rfl) eva_nil))))
        refine comp_nm ?_
        show dCall (spn_open_value C (n + 1)) [] (dCons (dVar 0) (dCons (dVar 1) (dCons (dVar 5) (dCons (dOp fSub (dVar 2) (dC (.int 1))) (dCons (dVar 3) dNil))))) w0 [some (.val (.lst (hs.map .int))), some (.val (gsT gs)), some (.val (.int m)), some (.val (.raw (.ref c))), none, some (.val (.int h)), none] M1 _
        refine call_ev (R := fun v M2 => v = optD (ovN hs k gs h) ∧ Oth c M1 M2 ∧ KS hs G c M2) ea (fun q e hq => ⟨hs, G, gs, c, rfl, oh, o, rfl, hg, hr h List.mem_cons_self, by omega, by omega, by omega, rfl, hk, fun M2 h2 h3 => hq _ M2 ⟨by rw [hk2], h2, h3⟩⟩) fun v M2 ⟨hv, ho2, hk3⟩ => ?_
        subst hv
        refine ⟨by omega, ?_⟩
        refine ih (acc ++ [_]) M2 K (fun u hu => hr u (List.mem_cons_of_mem _ hu)) (by rw [List.length_append, List.length_singleton]; omega) hk3 (ho.trans ho2) fun M3 h3 h4 => ?_
        rw [List.append_assoc]
        exact hK M3 h3 h4
    refine sqStep ?_
    refine ⟨rfl, ?_⟩
    have l6 := oh.2.1
    refine key hs [] M _ oh.2.2 (by simpa using l6) ⟨L, hM, nd, ok⟩ (Oth.refl _ _) fun M2 hk3 ho => ?_
    rw [List.nil_append]
    obtain ⟨L2, hM2, nd2, ok2⟩ := hk3
    have eall : ∀ w, Ev (dB1 fAll (dL (dComp [6] (iA (dVar 4)) (gNm 6) dYes (dOp fIsNot (dVar 6) (dC .non))))) w [some (.val (.lst (hs.map .int))), some (.val (gsT gs)), some (.val (.int m)), some (.val (.raw (.ref c))), some (.val (.lst (hs.map fun h => optD (ovN hs k gs h)))), none, none] M2 (.bl (opn hs (k + 1) gs)) := fun w κ hκ => by
      refine ⟨rfl, ?_⟩
      refine compR_on (c := fun h : Int => optD (ovN hs k gs h)) (f := fun h => .bl (!isN (optD (ovN hs k gs h)))) hs (fun h hh kt kf hk => (show dOp fIsNot (dVar 6) (dC .non) w0 [some (.val (.lst (hs.map .int))), some (.val (gsT gs)), some (.val (.int m)), some (.val (.raw (.ref c))), some (.val (.lst (hs.map fun h => optD (ovN hs k gs h)))), none, some (.val (optD (ovN hs k gs h)))] M2 kt from ev_op (f := fIsNot) (ev_var (w := w0) (i := 6) (d := optD (ovN hs k gs h)) rfl) (ev_c (d := .non)) (o2_isnN (opt_nr _)) _ hk)) (by omega) ?_
      refine all_of3 (bs := hs.map fun h => !isN (optD (ovN hs k gs h))) (by rw [List.map_map]; rfl) ?_
      have e : (hs.map fun h => !isN (optD (ovN hs k gs h))).all id = opn hs (k + 1) gs := by
        show _ = (mixed gs && hs.all fun h => (valsA gs h).any fun v => opn hs k (kpv gs h v))
        rw [cm, Bool.true_and, List.all_map]
        congr 1
        funext h
        show (!isN (optD (ovN hs k gs h))) = _
        rw [opt_isN, ov_any]
      rw [e]
      exact hκ
    dsimp only
    unfold dPutN
    refine eall _ _ ?_
    refine ekn _ _ _ _ ?_
    refine eky _ _ _ _ ?_
    have l2 := kn_len o nd2 ok2
    refine dct_at hM2 (key_gs ⟨by rw [List.length_map]; omega, ?_⟩)
    have e3 : putD (L2.map (knE hs)) (.tup [gsT gs, .int m]) (.bl (opn hs (k + 1) gs)) (nkG gs m) = (if (gs, k + 1) ∈ L2 then L2 else L2 ++ [(gs, k + 1)]).map (knE hs) := by rw [hmk]; exact put_kn L2
    have KS2 : KS hs G c (updM M2 c (.dct (putD (L2.map (knE hs)) (.tup [gsT gs, .int m]) (.bl (opn hs (k + 1) gs)) (nkG gs m)))) := by rw [hmk]; exact KS.put nd2 ok2 hg (by omega)
    have hu : updM M2 c (.dct (putD (L2.map (knE hs)) (.tup [gsT gs, .int m]) (.bl (opn hs (k + 1) gs)) (nkG gs m))) c = some (.dct ((if (gs, k + 1) ∈ L2 then L2 else L2 ++ [(gs, k + 1)]).map (knE hs))) := by rw [updM_same, e3]
    dsimp only
    refine fin _ _ (some (.val (.lst (hs.map fun h => optD (ovN hs k gs h))))) _ _ hu (by split; assumption; exact List.mem_append_right _ (List.mem_singleton.mpr rfl)) ?_
    refine ⟨_, MLe.refl _, hq _ (fun b mo hb e => ?_) KS2⟩
    unfold updM
    rw [if_neg hb]
    exact ho b mo hb e
end Px
set_option Elab.async false
set_option linter.all false
set_option maxRecDepth 100000
namespace Px
open PySem PySem.Spec PyProof.Rows L2
abbrev wordsL : List Str := ["a", "b", "c", "d"]
abbrev tellD (s : Str) : D := .tup [.str "tell", .str s]
abbrev lookD (h : Int) (es ts : List Int) : D := .tup [.str "look", .int h, .tup (es.map .int), .tup (ts.map .int)]
def wsD (ws : List (Str × Nat)) : List (Key × D) := ws.map fun p => (.inr p.1, .int (p.2 : Nat))
structure WdsOk (R : List D) (ws : List (Str × Nat)) : Prop where
  nd : (ws.map (·.1)).Nodup
  at_ : ∀ p ∈ ws, p.1 ∈ wordsL ∧ R[p.2]? = some (tellD p.1)
theorem WdsOk.len {R : List D} {ws : List (Str × Nat)} (o : WdsOk R ws) : ws.length ≤ 4 := by
  have := nd_len (ns := wordsL) o.nd fun s hs => by
    obtain ⟨p, hp, rfl⟩ := List.mem_map.mp hs
    exact (o.at_ p hp).1
  rw [List.length_map] at this
  exact this
def Ext (R R' : List D) : Prop := ∀ (j : Nat) (d : D), R[j]? = some d → d ≠ .non → R'[j]? = some d
theorem Ext.app (R new : List D) : Ext R (R ++ new) := fun j d h _ => by
  rw [List.getElem?_append_left (List.getElem?_eq_some_iff.mp h).1]; exact h
theorem Ext.trans {R R1 R2 : List D} (h : Ext R R1) (k : Ext R1 R2) : Ext R R2 := fun j d e n => k j d (h j d e n) n
theorem tell_ne (s : Str) : tellD s ≠ .non := fun z => by cases z
theorem look_ne {h : Int} {es ts : List Int} : lookD h es ts ≠ .non := fun z => by cases z
theorem WdsOk.ext {R R' : List D} {ws : List (Str × Nat)} (o : WdsOk R ws) (h : Ext R R') : WdsOk R' ws := ⟨o.nd, fun p hp => ⟨(o.at_ p hp).1, h _ _ (o.at_ p hp).2 (tell_ne _)⟩⟩
def NewOk (hs : List Int) (many : Int) (d : D) : Prop := (∃ s, s ∈ wordsL ∧ d = tellD s) ∨ ∃ h es ts, d = lookD h es ts ∧ h ∈ hs ∧ asc es ∧ (∀ n ∈ es, 0 ≤ n ∧ n ≤ h) ∧ es.length ≤ 12 ∧ (∀ n ∈ ts, 0 ≤ n ∧ n ≤ many - 1) ∧ ts.length = 2 * es.length + 1
theorem NewOk.mono {hs : List Int} {a b : Int} {d : D} (h : NewOk hs a d) (l : a ≤ b) : NewOk hs b d := by
  rcases h with h | ⟨x, es, ts, h1, h2, h3, h4, h5, h6, h7⟩
  · exact .inl h
  · exact .inr ⟨x, es, ts, h1, h2, h3, h4, h5, fun n hn => by have := h6 n hn; omega, h7⟩
def tgts (goals : List Int) : List Int := goals.take 1 ++ (goals.zip (goals.drop 1)).flatMap fun p => [p.1, p.2]
def TellAt (R : List D) (i : Int) (gs : List (List Int)) : Prop := ∃ s, 0 ≤ i ∧ R[i.toNat]? = some (tellD s) ∧ ∀ (k : Nat) (g : List Int), gs[k]? = some g → g ≠ [] → wordsL[k]? = some s
def Dec (hs : List Int) (R : List D) : Nat → Int → List (List Int) → Prop
  | 0, i, gs => TellAt R i gs
  | m + 1, i, gs => TellAt R i gs ∨ ∃ h goals, h ∈ hs ∧ 0 ≤ i ∧ R[i.toNat]? = some (lookD h (valsA gs h).dropLast (tgts goals)) ∧ goals.length = (valsA gs h).length ∧
      ∀ (j : Nat) (v g : Int), (valsA gs h)[j]? = some v → goals[j]? = some g → Dec hs R m g (kpv gs h v)
theorem Dec.up {hs : List Int} {R : List D} : ∀ {m : Nat} {i : Int} {gs : List (List Int)}, Dec hs R m i gs → Dec hs R (m + 1) i gs
  | 0, i, gs, h => .inl h
  | m + 1, i, gs, h => by
    rcases h with h | ⟨x, goals, h1, h2, h3, h4, h5⟩
    · exact .inl h
    · exact .inr ⟨x, goals, h1, h2, h3, h4, fun j v g a b => (h5 j v g a b).up⟩
theorem Dec.le {hs : List Int} {R : List D} {i : Int} {gs : List (List Int)} {m : Nat} : ∀ {n : Nat}, m ≤ n → Dec hs R m i gs → Dec hs R n i gs
  | 0, h, d => by
    have : m = 0 := by omega
    subst this; exact d
  | n + 1, h, d => by
    rcases Nat.lt_or_ge n m with c | c
    · have : m = n + 1 := by omega
      subst this; exact d
    · exact (Dec.le c d).up
theorem TellAt.ext {R R' : List D} {i : Int} {gs : List (List Int)} (h : TellAt R i gs) (e : Ext R R') : TellAt R' i gs := by
  obtain ⟨s, h0, h1, h2⟩ := h
  exact ⟨s, h0, e _ _ h1 (tell_ne _), h2⟩
theorem Dec.ext {hs : List Int} {R R' : List D} (e : Ext R R') : ∀ {m : Nat} {i : Int} {gs : List (List Int)}, Dec hs R m i gs → Dec hs R' m i gs
  | 0, i, gs, h => TellAt.ext h e
  | m + 1, i, gs, h => by
    rcases h with h | ⟨x, goals, h1, h2, h3, h4, h5⟩
    · exact .inl (TellAt.ext h e)
    · exact .inr ⟨x, goals, h1, h2, e _ _ h3 look_ne, h4, fun j v g a b => (h5 j v g a b).ext e⟩
end Px
set_option Elab.async false
set_option linter.all false
set_option maxRecDepth 100000
namespace Px
open PySem PySem.Spec PyProof.Rows L2
theorem set_callR {sp : PSp} {pl : PTA} {w : PWi} {P : PEnds} {ρ : Rho} {M : Mm} {ds : List D} {i : Nat} {r : PTS} {R : D → Mm → Prop} (ea : EvA pl w ρ M ds) (hs : ∀ q e, (∀ v M', R v M' → q v M') → sp (ds ++ []) M q e)
    (k : ∀ v M', R v M' → r w P (st ρ i (.val v)) M') : dSeq (dSet i (dCall sp [] pl)) r w P ρ M := ea _ (hs _ _ k)
end Px
set_option Elab.async false
set_option linter.all false
set_option maxRecDepth 100000
namespace Px
open PySem PySem.Spec PyProof.Rows L2
def Oth3 (c lr lw : Addr) (M M' : Mm) : Prop := ∀ b mo, b ≠ c → b ≠ lr → b ≠ lw → M b = some mo → M' b = some mo
structure StR (hs : List Int) (G : List (List Int)) (c lr lw : Addr) (R : List D) (ws : List (Str × Nat)) (M0 M1 : Mm) (new : List D) (ws1 : List (Str × Nat)) (lk : Nat) : Prop where
  oth : Oth3 c lr lw M0 M1
  ks : KS hs G c M1
  mr : M1 lr = some (.lst (R ++ new))
  mw : M1 lw = some (.dik (wsD ws1))
  wo : WdsOk (R ++ new) ws1
  nw : ∀ d ∈ new, NewOk hs ((R ++ new).length : Int) d
  cnt : new.length + ws.length = lk + ws1.length
section
variable {hs : List Int} {G : List (List Int)} {c lr lw : Addr} {R : List D} {ws : List (Str × Nat)} {M0 M1 M2 : Mm} {n1 n2 : List D} {ws1 ws2 : List (Str × Nat)} {k1 k2 : Nat}
theorem StR.trans (h : StR hs G c lr lw R ws M0 M1 n1 ws1 k1) (k : StR hs G c lr lw (R ++ n1) ws1 M1 M2 n2 ws2 k2) : StR hs G c lr lw R ws M0 M2 (n1 ++ n2) ws2 (k1 + k2) where
  oth := fun b mo z1 z2 z3 e => k.oth b mo z1 z2 z3 (h.oth b mo z1 z2 z3 e)
  ks := k.ks
  mr := by rw [← List.append_assoc]; exact k.mr
  mw := k.mw
  wo := by rw [← List.append_assoc]; exact k.wo
  nw := fun d hd => by
    rw [← List.append_assoc]
    rcases List.mem_append.mp hd with z | z
    · exact (h.nw d z).mono (by rw [List.length_append (as := R ++ n1)]; omega)
    · exact k.nw d z
  cnt := by
    have h1 := h.cnt
    have h2 := k.cnt
    rw [List.length_append]
    omega
theorem StR.here (h : StR hs G c lr lw R ws M0 M1 n1 ws1 k1) : StR hs G c lr lw (R ++ n1) ws1 M1 M1 [] ws1 0 where
  oth := fun b mo _ _ _ e => e
  ks := h.ks
  mr := by rw [List.append_nil]; exact h.mr
  mw := h.mw
  wo := by rw [List.append_nil]; exact h.wo
  nw := fun d hd => by cases hd
  cnt := by rw [List.length_nil]
end
section
variable {C : Cl} {w : PWi} {hs : List Int} {G gs : List (List Int)} {c lr lw : Addr}
end
end Px
set_option Elab.async false
set_option linter.all false
set_option maxRecDepth 100000
namespace Px
open PySem PySem.Spec PyProof.Rows L2
section
variable {C : Cl} {w : PWi} {hs : List Int} {gs : List (List Int)} {c lr lw : Addr}
end
section
variable {C : Cl} {w : PWi} {P : PEnds} {hs : List Int} {G gs : List (List Int)} {c lr lw : Addr} {R : List D} {ws : List (Str × Nat)} {M : Mm}
end
end Px
set_option Elab.async false
set_option linter.all false
set_option maxRecDepth 100000
namespace Px
open PySem PySem.Spec PyProof.Rows L2
end Px
set_option Elab.async false
set_option linter.all false
set_option maxRecDepth 100000
namespace Px
open PySem PySem.Spec PyProof.Rows L2
def insL (x : List Int) : List (List Int) → List (List Int)
  | [] => [x]
  | y :: r => if lexL y x then y :: insL x r else x :: y :: r
def isort : List (List Int) → List (List Int)
  | [] => []
  | x :: r => insL x (isort r)
def idxs (x n : Nat) : List Int := ((List.range n).filter fun (i : Nat) => x / 2 ^ i % 2 == 1).map fun (i : Nat) => (i : Int)
def chN (n : Nat) : List (List Int) := (List.range (2 ^ n - 1)).map fun k => idxs (k + 1) n
def prtN (n : Nat) : List (List Int) := (List.range n).foldl (fun (ps : List (List Int)) (i : Nat) => ps ++ ps.map (· ++ [(i : Int)])) [[]]
def srtN (n : Nat) : List (List Int) := isort (chN n)
structure ChOk (n : Nat) : Prop where
  s1 : (srtN n).Pairwise (fun x y => lexL y x = false)
  s2 : ([] :: srtN n).Pairwise (fun x y => lexL y x = false)
  p1 : (srtN n).Perm (chN n)
  p2 : ([] :: srtN n).Perm (prtN n)
  el : ∀ c ∈ chN n, c ≠ [] ∧ c.length ≤ 6 ∧ ∀ i ∈ c, 0 ≤ i ∧ i < n
  el2 : ∀ c ∈ srtN n, c ≠ [] ∧ c.length ≤ 6 ∧ ∀ i ∈ c, 0 ≤ i ∧ i < n
  len : (srtN n).length ≤ 63
end Px
set_option Elab.async false
set_option linter.all false
set_option maxRecDepth 100000
namespace Px
open PySem PySem.Spec PyProof.Rows L2
theorem extend_tupG (l : Addr) (items : Array Value) (n : Nat) (b : Addr) (items2 : Array Value) (n2 : Nat) (d2 : Option Addr) (sl2 : Array (Option Value)) (hs0 : ¬(!items.isEmpty && Builtin.List.listTooLong (items.size + items2.size)) = true) (hs1 : items.size ≤ sizeLine) (hs2 : items.size + items2.size ≤ sizeLine + 1) :
    Meets (Builtin.«list.extend» ⟨[.ref l, .ref b], []⟩) (fun _ R s => s.heap.get? l = some { cls := .type "list", dict := none, data := .seq items n, slots := #[] } ∧ s.heap.get? b = some { cls := .type "tuple", dict := d2, data := .seq items2 n2, slots := sl2 } ∧ R (.ok (.ret Value.none)) { s with heap := s.heap.update l (Obj.mapSeq fun x => x ++ items2), toks := s.toks }) :=
  .of_wp fun prog w A R s h => by
    obtain ⟨h0, gn, dr, tk, os⟩ := s; obtain ⟨hl, hb, h⟩ := h; have f1 := PySem.AutoSeq1.idx_int; have f2 := PySem.AutoSeq1.sub_tuple_tuple; have f3 := PySem.AutoSeq1.sub_list_list; have f4 := PySem.AutoSeq1.sub_tuple_list; have f5 := PySem.AutoSeq1.sub_list_tuple;
    have hq : (items ++ items2).size ≤ sizeLine + 1 := by simpa only [Array.size_append] using hs2
    wp_walk using (wpAny_updateSeq hl rfl (hz := hs1) (_hz' := hq)), PySem.AutoSeq1.wpAny_loadPart' hl, PySem.AutoSeq1.wpAny_loadPart' hb; exact ⟨_, rfl, h⟩
section
variable {X : Cx}
def rExtendT (K : PySem.W.Frag) : V → List V → Hp → VK → Prop := fun x vs H Q => ∃ l b xs zs, x = .ref l ∧ vs = [.ref b] ∧ H l = some (.lst xs) ∧ (H b = some (.lst zs) ∨ SqT K H b zs) ∧ xs.length + zs.length ≤ sizeLine ∧ Q .non (upd H l (.lst (xs ++ zs)))
theorem mt_extendT : MtR X "list.extend" (rExtendT X.K) := by
  intro pins s σ H x vs v us Q I rx rv h
  obtain ⟨l, b, xs, zs, rfl, rfl, hH, hB, hz, q⟩ := h
  rcases hB with hB | hB
  · exact mt_extend pins s σ H _ _ v us Q I rx rv ⟨l, b, xs, zs, rfl, rfl, hH, hB, hz, q⟩
  cases rx
  obtain ⟨u, rfl, ru⟩ := rv.one
  cases ru
  obtain ⟨z, its, n, r, hl, e⟩ := I.lstM hH
  obtain ⟨its2, r2, ⟨o, e2, hc, n2, hd⟩, z2⟩ := I.tuple hB
  obtain ⟨oc, od, ot, osl⟩ := o
  cases hc
  cases hd
  have hl2 := r2.length
  have hsz : its.toArray.size + its2.toArray.size ≤ sizeLine := by rw [List.size_toArray, List.size_toArray]; omega
  have hlong : ¬ (!its.toArray.isEmpty && Builtin.List.listTooLong (its.toArray.size + its2.toArray.size)) = true := by
    rw [notLongL hsz, Bool.and_false]
    exact Bool.false_ne_true
  refine call_meets F.slot_list_extend ⟨_, e, rfl⟩ F.entry_list_extend (F.args_list_extend_2 _ _)
    (extend_tupG l its.toArray n b its2.toArray n2 _ _ hlong (by rw [List.size_toArray]; omega) (by omega)) ⟨e, e2, ?_⟩
  refine ⟨.non, _, I.lset (its' := its ++ its2) hH e (by simp) (r.append r2) ?_, rfl, q⟩
  rw [List.length_append]
  omega
end
def dExtS (i : Nat) (pe : PTE) : PTS := fun w P ρ M => ∃ l, gt ρ i = some (.own l) ∧ pe w ρ M fun d M' => ∃ l2, (d = .lst l2 ∨ d = .tup l2) ∧ l.length + l2.length ≤ 1000000 ∧ P.nx (st ρ i (.own (l ++ l2))) M'
section
variable {X : Cx} {W : WX} {e : Expr} {pe : PTE} {pos p1 p2 p3 : Pos}
theorem ds_extS (i : Nat) {x : Str} (he : DE X W e pe) (hN : X.N[i]? = some x := by rfl) (hv : Vis X.env.scope x := by first | exact Or.inl rfl | exact Or.inr (Or.inl rfl) | exact Or.inr (Or.inr rfl)) (hd : (x == ("__debug__" : Str)) = false := by decide)
    (hcd : (x == ("__classdict__" : Str)) = false := by decide) (hs : starEach [e] X.env = (false, eval e X.env) :: starEach [] X.env := by rfl)
    (hbase : attributeBase (.Name x p1) "extend" X.env (eval (.Name x p1) X.env) = eval (.Name x p1) X.env := by rfl)
    (hfew : ((backTo p3 (starEach [e] X.env)).all (fun x => !x.1) && (backToKw p3 (keywordEach [] X.env)).all (fun x => x.1.isSome)
      && decide ([e].length + ([] : List Keyword).length + (if ([] : List Keyword).isEmpty then 0 else 1) < 30)) = true := by rfl)
    (hline : (p2.endLine == p3.line) = true := by rfl) (hplain : (backTo p3 (starEach [] X.env)).any (·.1) = false := by rfl) :
    DS X W (.Expr (.Call (.Attribute (.Name x p1) "extend" p2) [e] [] p3) pos) (dExtS i pe) :=
  ps_imp (ps_expr (pe_bm PySem.F.plainAttrs_list PySem.F.slot_list_extend PySem.F.type_list_extend mt_extendT (pv i hN hv hd hcd) (pa_cons he pa_nil hs) hbase hfew hline hs hplain)) fun D σ H hE => hE.el fun g ρ M F O P w A ⟨l0, e0, h⟩ hw k1 _ _ _ _ => by
    obtain ⟨v, hv', l, xs, rfl, hl, rl, hO⟩ := A.sl i _ e0
    refine ⟨.ref l, hv', .inl ⟨rfl, xs, .inl (.inl hl)⟩, g, ρ, M, F, O, _, w, A, h, hw, fun u H1 F1 O1 M1 d A1 s1 r1 ⟨l2, ed, hz, q2⟩ => ?_⟩
    obtain ⟨v2, hv2, l', ys, ev, hl2, rl2, hO2⟩ := A1.sl i _ e0
    rw [hv'] at hv2
    cases hv2
    cases ev
    have hb : ∃ b zs, u = .ref b ∧ (H1 b = some (.lst zs) ∨ SqT X.K H1 b zs) ∧ RpL X.K F1 l2 zs := by
      rcases ed with rfl | rfl
      · obtain ⟨b, zs, rfl, hb, rz⟩ := r1
        exact ⟨b, zs, rfl, .inl (A1.sub _ _ hb), rz⟩
      · obtain ⟨b, zs, rfl, hb, rz⟩ := r1
        exact ⟨b, zs, rfl, .inr (same_t A1.sub hb), rz⟩
    obtain ⟨b, zs, rfl, hb, rz⟩ := hb
    refine ⟨l, b, ys, zs, rfl, rfl, hl2, hb, by rw [← rl2.len, ← rz.len]; exact Nat.le_trans hz (by decide), ?_⟩
    exact k1 _ _ _ _ F1 O1 (A1.chg (xs := ys) e0 hv' hO2 (rl2.app rz)) s1 q2
end
end Px
set_option Elab.async false
set_option linter.all false
set_option maxRecDepth 100000
namespace Px
open PySem PySem.Spec PyProof.Rows L2
def isGrps : List D → List (List Int) → Prop
  | [], [] => True
  | d :: l, g :: gs => isSeq d g ∧ isGrps l gs
  | _, _ => False
def isGs (d : D) (gs : List (List Int)) : Prop := ∃ l, (d = .lst l ∨ d = .tup l) ∧ isGrps l gs
theorem isGrps_len : ∀ {l : List D} {gs : List (List Int)}, isGrps l gs → l.length = gs.length
  | [], [], _ => rfl
  | _ :: _, _ :: _, h => by rw [List.length_cons, List.length_cons, isGrps_len h.2]
  | [], _ :: _, h => h.elim
  | _ :: _, [], h => h.elim
theorem isGrps_lst : ∀ gs : List (List Int), isGrps (gs.map fun g => D.lst (g.map .int)) gs
  | [] => trivial
  | g :: gs => ⟨.inl rfl, isGrps_lst gs⟩
def asTup : D → D
  | .lst xs => .tup xs
  | d => d
theorem isGrps_asTup : ∀ {l : List D} {gs : List (List Int)}, isGrps l gs → l.map asTup = gs.map tupI
  | [], [], _ => rfl
  | d :: l, g :: gs, h => by
    rw [List.map_cons, List.map_cons, isGrps_asTup h.2]
    rcases h.1 with rfl | rfl <;> rfl
  | [], _ :: _, h => h.elim
  | _ :: _, [], h => h.elim
structure GsOk (gs : List (List Int)) : Prop where
  n2 : 2 ≤ gs.length
  n4 : gs.length ≤ 4
  ne : ∀ g ∈ gs, g ≠ []
  rg : ∀ g ∈ gs, ∀ n ∈ g, 0 ≤ n ∧ n ≤ 5040
  nd : gs.flatten.Nodup
  tot : gs.flatten.length ≤ 12
theorem flat_len {g : List Int} : ∀ {gs : List (List Int)}, g ∈ gs → g.length ≤ gs.flatten.length
  | g' :: gs, h => by
    rw [List.flatten_cons, List.length_append]
    rcases List.mem_cons.mp h with rfl | h
    · omega
    · have := flat_len h; omega
theorem GsOk.g {gs : List (List Int)} (o : GsOk gs) : GsG gs where
  len := o.n4
  each := fun g hg => ⟨Nat.le_trans (flat_len hg) o.tot, o.rg g hg⟩
theorem GsOk.g12 {gs : List (List Int)} (o : GsOk gs) : G12 gs := ⟨o.g, o.tot⟩
theorem GsOk.flat {gs : List (List Int)} (o : GsOk gs) : gs.flatten ≠ [] := by
  have h2 := o.n2
  cases e : gs with
  | nil => rw [e] at h2; simp at h2
  | cons g r =>
    intro z
    rw [List.flatten_cons] at z
    exact o.ne g (by rw [e]; exact List.mem_cons_self) (List.append_eq_nil_iff.mp z).1
theorem any_of3 {l : List D} {bs : List Bool} {k : D → Prop} (e : l = bs.map .bl) (h : k (.bl (bs.any id))) : fAny (.lst l) k := by
  subst e
  unfold fAny
  dsimp only
  rw [boolsOf_map]
  exact h
theorem retEA {w : PWi} {P : PEnds} {ρ : Rho} {M : Mm} {pa : PTE} {d : D} (h : Ev pa w ρ M d) (k : P.rt d M) : dRet pa w P ρ M := h _ k
theorem ev_isiS {w : PWi} {ρ : Rho} {M : Mm} {pa : PTE} {d : D} (h : Ev pa w ρ M d) (hd : ∃ l, d = .lst l ∨ d = .tup l) : Ev (dB1 (fIsi2 "list" "tuple") pa) w ρ M (.bl true) := fun q hq => h _ (by
  obtain ⟨l, rfl | rfl⟩ := hd <;> exact hq)
theorem ev_lenS {w : PWi} {ρ : Rho} {M : Mm} {pa : PTE} {d : D} {l : List D} (h : Ev pa w ρ M d) (hd : d = .lst l ∨ d = .tup l) : Ev (dB1 fLen pa) w ρ M (.int l.length) := fun q hq => h _ (by
  rcases hd with rfl | rfl <;> exact hq)
theorem sq_list {d : D} {g : List Int} (h : isSeq d g) : ∃ l, d = .lst l ∨ d = .tup l := h.elim (fun h => ⟨_, .inl h⟩) fun h => ⟨_, .inr h⟩
theorem ev_lenSet {w : PWi} {ρ : Rho} {M : Mm} {pe : PTE} {d : D} {g : List Int} (h : Ev pe w ρ M d) (hd : isSeq d g) (hl : g.length ≤ 1000) (nd : g.Nodup) : Ev (dLenSetX pe) w ρ M (.int (g.length : Int)) := fun q hq => h _ ⟨g, hd, hl, fun ms m1 m2 => by
  rw [((List.perm_ext_iff_of_nodup m1 nd).mpr m2).length_eq]; exact hq⟩
theorem forEA {w : PWi} {P : PEnds} {ρ : Rho} {M : Mm} {pe : PTE} {gd : PTG} {p : PTS} {d : D} {l : List D} (he : Ev pe w ρ M d) (hd : d = .lst l ∨ d = .tup l) (k : forR gd p w (enumD 0 l) P ρ M) : dFor (iEA pe) gd p w P ρ M := he _ (by
  rcases hd with rfl | rfl <;> exact k)
theorem g2_A {i j : Nat} {x y : D} {ρ : Rho} {k : Rho → Prop} (h : k (st (st ρ i (.val x)) j (.val y))) : gTp 2 (gsCons (gNm i) (gsCons (gNm j) gsNil)) (.tup [x, y]) ρ k := ⟨rfl, h⟩
def sp_is_group (C : Cl) : PSp := fun ds M q _ => ar1 ds fun d => ∃ g : List Int, isSeq d g ∧ g ≠ [] ∧ g.length ≤ 12 ∧ (∀ n ∈ g, 0 ≤ n ∧ n ≤ 5040) ∧ g.Nodup ∧ q (.bl true) M
def rd_is_group (C : Cl) : PTS := (dSeq (dIfS (dOr (dNot (dTst (dB1 (fIsi2 "list" "tuple") (dVar 0)))) (dTst (dOp fEq (dB1 fLen (dVar 0)) (dC (.int 0))))) (dRet (dC (.bl false))) dNext)
    (dRet (dAndV (dB1 fAll (dL (dComp [1] (iA (dVar 0)) (gNm 1) dYes (dCall (sp_is_between C) [] (dCons (dVar 1) (dCons (dC (.int 0)) (dCons (dC (.int 5040)) dNil))))))) (dOp fEq (dLenSetX (dVar 0)) (dB1 fLen (dVar 0))))))
theorem iA_sq {w : PWi} {ρ : Rho} {M : Mm} {pe : PTE} {d : D} {l : List D} {q : List D → Mm → Prop} (he : Ev pe w ρ M d) (hd : d = .lst l ∨ d = .tup l) (h : q l M) : iA pe w ρ M q := he _ (by
  rcases hd with rfl | rfl <;> exact h)
theorem sh_is_group (C : Cl) : Shows (sp_is_group C) 2 (rd_is_group C) := by
  intro ds M q e hh
  obtain ⟨d, rfl, g, hd, ne, gl, rg, nd, hq⟩ := ar1_of hh
  have n0 : g.length ≠ 0 := fun z => ne (List.eq_nil_of_length_eq_zero z)
  have ev0 : ∀ (w : PWi) (x : Option Sv), Ev (dVar 0) w [some (.val d), x] M d := fun w x => ev_var rfl
  have el : ∀ (w : PWi) (x : Option Sv), Ev (dB1 fLen (dVar 0)) w [some (.val d), x] M (.int (g.length : Int)) := fun w x => by
    have := ev_lenS (l := g.map .int) (ev0 w x) hd
    rwa [List.length_map] at this
  refine sqIfFN (evt_orF (evt_not (evt (ev_isiS (ev0 _ _) (sq_list hd)))) (by
    have := fun w => evt (ev_op (el w none) (ev_c (d := .int 0)) o2_eqI)
    rw [decide_eq_false (by omega)] at this
    exact this _)) ?_
  have e1 : (g.map fun n => btwD (.int n) 0 5040).all id = true := by
    rw [List.all_map, List.all_eq_true]
    intro n hn
    show (decide (0 ≤ n) && decide (n ≤ 5040)) = true
    rw [decide_eq_true (rg n hn).1, decide_eq_true (rg n hn).2]; rfl
  have iv : ∀ (w : PWi) (q : List D → Mm → Prop), q (g.map .int) M → iA (dVar 0) w [some (.val d), none] M q := fun w q h => iA_sq (ev0 w none) hd h
  have ea : ∀ (w : PWi), Ev (dB1 fAll (dL (dComp [1] (iA (dVar 0)) (gNm 1) dYes (dCall (sp_is_between C) [] (dCons (dVar 1) (dCons (dC (.int 0)) (dCons (dC (.int 5040)) dNil))))))) w [some (.val d), none] M (.bl true) := fun w q hq => by
    refine ⟨rfl, iv w _ ?_⟩
    refine compR_on (c := D.int) (f := fun n => D.bl (btwD (.int n) 0 5040)) g (fun n hn κ kf hκ => ⟨rfl, hκ⟩) (by omega) ?_
    refine all_of3 (bs := g.map fun n => btwD (.int n) 0 5040) (by rw [List.map_map]; rfl) ?_
    rw [e1]
    exact hq
  have es : ∀ (w : PWi), Ev (dOp fEq (dLenSetX (dVar 0)) (dB1 fLen (dVar 0))) w [some (.val d), none] M (.bl true) := fun w => by
    have := ev_op (ev_lenSet (ev0 w none) hd (by omega) nd) (el w none) o2_eqI
    rwa [decide_eq_true rfl] at this
  refine retEA (ev_and (ea _) (fun _ => es _) rfl) ?_
  exact ⟨M, MLe.refl M, hq⟩
def sp_need_groups (C : Cl) : PSp := fun ds M q _ => ar1 ds fun d => ∃ gs, isGs d gs ∧ GsOk gs ∧ q .non M
def rd_need_groups (C : Cl) : PTS := (dSeq (dIfS (dOr (dNot (dTst (dB1 (fIsi2 "list" "tuple") (dVar 0)))) (dTst (dOp fLt (dB1 fLen (dVar 0)) (dC (.int 2))))) (dRaiseA (.ref C.BadGroups) "at" (dC (.int 0))) dNext)
    (dSeq (dSetO 1 (dLst dNil))
    (dFor (iEA (dVar 0)) (gTp 2 (gsCons (gNm 2) (gsCons (gNm 3) gsNil))) (dSeq (dIfS (dOr (dTst (dOp fEq (dVar 2) (dC (.int 4)))) (dOr (dNot (dTst (dCall (sp_is_group C) [] (dCons (dVar 3) dNil)))) (dTst (dB1 fAny (dL (dComp [4] (iA (dVar 3)) (gNm 4) dYes (dOp (fInI false) (dVar 4) (dOwn 1)))))))) (dRaiseA (.ref C.BadGroups) "at" (dVar 2)) dNext)
    (dSeq (dExtS 1 (dVar 3))
    (dIfS (dTst (dOp fGt (dB1 fLen (dOwn 1)) (dC (.int 12)))) (dRaiseA (.ref C.BadGroups) "at" (dVar 2)) dNext))))))
theorem sh_need_groups (C : Cl) : Shows (sp_need_groups C) 5 (rd_need_groups C) := by
  intro ds M q e hh
  obtain ⟨d, rfl, gs, ⟨l, hd, hl⟩, o, hq⟩ := ar1_of hh
  have h2 := o.n2
  have h4 := o.n4
  have ll := isGrps_len hl
  have ev0 : ∀ (w : PWi), Ev (dVar 0) w [some (.val d), none, none, none, none] M d := fun w => ev_var rfl
  refine sqIfFN (evt_orF (evt_not (evt (ev_isiS (ev0 _) ⟨l, hd⟩))) (by
    have := fun w => evt (ev_op (ev_lenS (ev0 w) hd) (ev_c (d := .int 2)) (o2_cmp (p := fun i j => decide (i < j))))
    rw [decide_eq_false (by omega)] at this
    exact this _)) ?_
  refine ⟨by decide, ?_⟩
  show dFor (iEA (dVar 0)) _ _ _ _ [some (.val d), some (.own []), none, none, none] M
  refine forEA (ev_var rfl) hd ?_
  have key : ∀ (w : PWi) (P : PEnds), (∀ x1 x2 x3, P.nx [some (.val d), x1, x2, x3, none] M) → ∀ (r : List D) (i : Nat) (rg done : List (List Int)) (x2 x3 : Option Sv), isGrps r rg → gs = done ++ rg → i = done.length →
      forR (gTp 2 (gsCons (gNm 2) (gsCons (gNm 3) gsNil))) (dSeq (dIfS (dOr (dTst (dOp fEq (dVar 2) (dC (.int 4)))) (dOr (dNot (dTst (dCall (sp_is_group C) [] (dCons (dVar 3) dNil)))) (dTst (dB1 fAny (dL (dComp [4] (iA (dVar 3)) (gNm 4) dYes (dOp (fInI false) (dVar 4) (dOwn 1)))))))) (dRaiseA (.ref C.BadGroups) "at" (dVar 2)) dNext)
        (dSeq (dExtS 1 (dVar 3)) (dIfS (dTst (dOp fGt (dB1 fLen (dOwn 1)) (dC (.int 12)))) (dRaiseA (.ref C.BadGroups) "at" (dVar 2)) dNext))) w (enumD i r) P [some (.val d), some (.own (done.flatten.map .int)), x2, x3, none] M := by
    intro w P hP r
    induction r with
    | nil => intro i rg done x2 x3 _ _ _; exact hP _ _ _
    | cons y r ih =>
      intro i rg done x2 x3 hg e ei
      cases rg with
      | nil => exact hg.elim
      | cons g rg =>
        obtain ⟨hy, hg⟩ := hg
        have gm : g ∈ gs := by rw [e]; simp
        have efl : gs.flatten = done.flatten ++ (g ++ rg.flatten) := by rw [e, List.flatten_append, List.flatten_cons]
        have nd := o.nd
        rw [efl] at nd
        have tot := o.tot
        rw [efl, List.length_append, List.length_append] at tot
        have i4 : i < 4 := by
          have := congrArg List.length e
          rw [List.length_append, List.length_cons] at this
          omega
        refine g2_A ?_
        have ey : ∀ (w : PWi), Ev (dVar 3) w [some (.val d), some (.own (done.flatten.map .int)), some (.val (.int (i : Int))), some (.val y), none] M y := fun w => ev_var rfl
        have eg : Ev (dCall (sp_is_group C) [] (dCons (dVar 3) dNil)) w [some (.val d), some (.own (done.flatten.map .int)), some (.val (.int (i : Int))), some (.val y), none] M (.bl true) := ev_call (eva_cons (ey _) eva_nil) fun q e hq => ⟨g, hy, o.ne g gm, by omega, o.rg g gm, (List.nodup_append.mp (List.nodup_append.mp nd).2.1).1, hq⟩
        have eany : Ev (dB1 fAny (dL (dComp [4] (iA (dVar 3)) (gNm 4) dYes (dOp (fInI false) (dVar 4) (dOwn 1))))) w [some (.val d), some (.own (done.flatten.map .int)), some (.val (.int (i : Int))), some (.val y), none] M (.bl false) := fun q hq => by
          refine ⟨rfl, iA_sq (ey _) hy ?_⟩
          refine compR_on (c := D.int) (f := fun n => D.bl (decide (n ∈ done.flatten))) g (fun n hn κ kf hκ => ?_) (by omega) ?_
          · show dOp (fInI false) (dVar 4) (dOwn 1) w0 [some (.val d), some (.own (done.flatten.map .int)), some (.val (.int (i : Int))), some (.val y), some (.val (.int n))] M κ
            refine (ev_var (w := w0) (i := 4) (d := .int n) (by rfl)) _ ?_
            refine (ev_own (w := w0) (i := 1) (l := done.flatten.map .int) (by rfl)) _ ?_
            refine o2_inI (neg := false) (i := n) (y := .lst (done.flatten.map .int)) (show itemsD (.lst (done.flatten.map .int)) = some done.flatten from intsOf_map _) _ ?_
            exact hκ
          · refine any_of3 (bs := g.map fun n => decide (n ∈ done.flatten)) (by rw [List.map_map]; rfl) ?_
            have e0 : (g.map fun n => decide (n ∈ done.flatten)).any id = false := by
              rw [List.any_map, List.any_eq_false]
              intro n hn
              have : n ∉ done.flatten := fun z => (List.nodup_append.mp nd).2.2 n z n (List.mem_append_left _ hn) rfl
              simpa using this
            rw [e0]
            exact hq
        refine sqIfFN (ρ := [some (.val d), some (.own (done.flatten.map .int)), some (.val (.int (i : Int))), some (.val y), none]) (evt_orF (by
          have := evt (ev_op (w := w) (ρ := [some (.val d), some (.own (done.flatten.map .int)), some (.val (.int (i : Int))), some (.val y), none]) (M := M) (ev_var (i := 2) (d := .int (i : Int)) rfl) (ev_c (d := .int 4)) o2_eqI)
          rwa [decide_eq_false (by omega)] at this) (evt_orF (evt_not (evt eg)) (evt eany))) ?_
        refine sqStep ?_
        refine ⟨_, rfl, ?_⟩
        refine ey _ _ ⟨g.map .int, hy, by rw [List.length_map, List.length_map]; omega, ?_⟩
        dsimp only
        rw [← List.map_append]
        refine itF (decide_eq_false (by rw [List.length_map, List.length_append]; omega)) ?_
        have := ih (i + 1) rg (done ++ [g]) (some (.val (.int (i : Int)))) (some (.val y)) hg (by rw [e, List.append_assoc]; rfl) (by rw [ei, List.length_append]; rfl)
        rw [List.flatten_append, List.flatten_singleton] at this
        exact this
  refine key _ _ ?_ l 0 gs [] none none hl rfl rfl
  intro x1 x2 x3
  exact ⟨M, MLe.refl _, hq⟩
end Px
set_option Elab.async false
set_option linter.all false
set_option maxRecDepth 100000
namespace Px
open PySem PySem.Spec PyProof.Rows L2
def sp_copiedS (C : Cl) : PSp := fun ds M q _ => ar1 ds fun d => ∃ gs, isGs d gs ∧ GsG gs ∧ q (gsT gs) M
theorem isGrps_each : ∀ {l : List D} {gs : List (List Int)}, isGrps l gs → ∀ d ∈ l, ∃ g, isSeq d g
  | [], [], _, d, h => by cases h
  | x :: l, g :: gs, h, d, hd => by
    rcases List.mem_cons.mp hd with rfl | hd
    · exact ⟨g, h.1⟩
    · exact isGrps_each h.2 d hd
  | [], _ :: _, h, _, _ => h.elim
  | _ :: _, [], h, _, _ => h.elim
theorem sh_copiedS (C : Cl) : Shows (sp_copiedS C) 2 (rd_copied C) := by
  intro ds M q e hh
  obtain ⟨d, rfl, gs, ⟨l, hd, hl⟩, o, hq⟩ := ar1_of hh
  have := isGrps_len hl
  have ol := o.len
  have ea : ∀ w, Ev (dL (dComp [1] (iA (dVar 0)) (gNm 1) dYes (dB1 fTup (dVar 1)))) w [some (.val d), none] M (.lst (gs.map tupI)) := fun w q hq => by
    refine ⟨rfl, iA_sq (ev_var rfl) hd ?_⟩
    refine compR_map asTup l (fun y hy kt kf hk => ?_) (by omega) ?_
    · obtain ⟨g, hg⟩ := isGrps_each hl y hy
      rcases hg with rfl | rfl <;> exact hk
    · rw [isGrps_asTup hl]; exact hq
  refine retEA (ev_b1 (ea _) o1_tupL) ?_
  exact ⟨M, MLe.refl M, hq⟩
def sg (hl : List Int) (n : Int) : List Int := hl.map fun h => shI h n
structure OwnOk (hl : List Int) (P : List (Nat × Int)) (kvs : List (D × D)) : Prop where
  fw : ∀ p ∈ P, lookK kvs (nkI (sg hl p.2)) = some (.int (p.1 : Nat))
  bw : ∀ s v, lookK kvs (nkI s) = some v → ∃ p ∈ P, sg hl p.2 = s
  len : kvs.length ≤ P.length
section
variable {C : Cl} {w : PWi} {hl : List Int} {gs : List (List Int)} {d : D} {c : Addr}
theorem forEAs {w : PWi} {P : PEnds} {ρ : Rho} {M : Mm} {pe : PTE} {gd : PTG} {p : PTS} {d : D} {l : List D} (he : Ev pe w ρ M d) (hd : d = .lst l ∨ d = .tup l) (k : forR gd p w l P ρ M) : dFor (iA pe) gd p w P ρ M := he _ (by
  rcases hd with rfl | rfl <;> exact k)
end
end Px
set_option Elab.async false
set_option linter.all false
set_option maxRecDepth 100000
namespace Px
open PySem PySem.Spec PyProof.Rows L2
theorem MLe.tr {M M1 M2 : Mm} (h : MLe M M1) (k : MLe M1 M2) : MLe M M2 := fun b m e => k b m (h b m e)
section
variable {C : Cl} {hs : List Int} {gs : List (List Int)} {a d : D}
end
end Px
set_option Elab.async false
set_option linter.all false
set_option maxRecDepth 100000
namespace Px
open PySem PySem.Spec PyProof.Rows L2
structure GsH (gs : List (List Int)) : Prop where
  n4 : gs.length ≤ 4
  ne : ∀ g ∈ gs, g ≠ []
  rg : ∀ g ∈ gs, ∀ n ∈ g, 0 ≤ n ∧ n ≤ 5040
  nd : gs.flatten.Nodup
  tot : gs.flatten.length ≤ 12
theorem GsH.ok {gs : List (List Int)} (o : GsH gs) (h : 2 ≤ gs.length) : GsOk gs := ⟨h, o.n4, o.ne, o.rg, o.nd, o.tot⟩
theorem flat_set {v : Int} : ∀ {ls : List (List Int)} {j : Nat} {l : List Int}, ls[j]? = some l → ((ls.set j (l ++ [v])).flatten).Perm (v :: ls.flatten)
  | [], _, _, h => by cases h
  | a :: ls, 0, l, h => by
    cases h
    show (((a ++ [v]) :: ls).flatten).Perm (v :: (a :: ls).flatten)
    rw [List.flatten_cons, List.flatten_cons, List.append_assoc]
    exact List.perm_middle
  | a :: ls, j + 1, l, h => by
    show ((a :: (ls.set j (l ++ [v]))).flatten).Perm (v :: (a :: ls).flatten)
    rw [List.flatten_cons, List.flatten_cons]
    exact ((flat_set (ls := ls) (j := j) h).append_left a).trans List.perm_middle
theorem flat_filter : ∀ ls : List (List Int), (ls.filter fun g => !g.isEmpty).flatten = ls.flatten
  | [] => rfl
  | a :: ls => by
    rw [List.filter_cons]
    cases a with
    | nil => exact flat_filter ls
    | cons x a => show ((x :: a) :: ls.filter _).flatten = _; rw [List.flatten_cons, List.flatten_cons, flat_filter ls]
def sp__law_groups (C : Cl) : PSp := fun ds M q _ => ar2 ds fun dr x => asDraw dr M (asI x fun m => 0 ≤ m ∧ m ≤ 5040 ∧ ∀ gs, GsH gs → q (gsL gs) M)
def rd__law_groups (C : Cl) : PTS := (dSeq (dPar2LB 2 3 [4] (iR1 (dOp fAdd (dC (.int 2)) (dCall sp_take [] (dCons (dVar 0) (dCons (dC (.int 3)) dNil))))) (gNm 4))
    (dSeq (dFor (iR1 (dOp fAdd (dLenB 3) (dCall sp_take [] (dCons (dVar 0) (dCons (dCall sp_pick [] (dCons (dVar 0) (dCons (dL (dLst (dCons (dC (.int 3)) (dCons (dC (.int 6)) (dCons (dC (.int 9)) dNil))))) dNil))) dNil))))) (gNm 4) (dSeq (dSet 5 (dCall sp_take [] (dCons (dVar 0) (dCons (dOp fAdd (dVar 1) (dC (.int 1))) dNil))))
    (dIfS (dTst (dOp (fInI true) (dVar 5) (dOwn 2))) (dSeq (dApp 2 (dVar 5))
    (dSeq (dSet 6 (dCall sp_take [] (dCons (dVar 0) (dCons (dLenB 3) dNil))))
    (dBagApp 3 (dVar 6) (dVar 5)))) dNext)))
    (dThLL 3 (dRet (dL (dComp [7] (iA (dVar 3)) (gNm 7) (dTst (dOp fNe (dVar 7) (dL (dLst dNil)))) (dVar 7)))))))
structure LsOk (L0 : Nat) (ns : List Int) (ls : List (List Int)) (i : Nat) : Prop where
  len : ls.length = L0
  mem : ∀ n, n ∈ ls.flatten ↔ n ∈ ns
  nd : ls.flatten.Nodup
  tot : ls.flatten.length ≤ i
  nl : ns.length ≤ i
  rg : ∀ n ∈ ns, 0 ≤ n ∧ n ≤ 5040
theorem LsOk.add {L0 : Nat} {ns : List Int} {ls : List (List Int)} {i j : Nat} {v : Int} {l : List Int} (o : LsOk L0 ns ls i) (h : v ∉ ns) (hv : 0 ≤ v ∧ v ≤ 5040) (hj : ls[j]? = some l) : LsOk L0 (ns ++ [v]) (ls.set j (l ++ [v])) (i + 1) := by
  have p := flat_set (v := v) hj
  refine ⟨by rw [List.length_set]; exact o.len, fun n => ?_, p.nodup_iff.mpr (List.nodup_cons.mpr ⟨fun z => h ((o.mem v).mp z), o.nd⟩), by rw [p.length_eq, List.length_cons]; have := o.tot; omega, by rw [List.length_append, List.length_singleton]; have := o.nl; omega, fun n hn => ?_⟩
  · rw [p.mem_iff, List.mem_cons, List.mem_append, List.mem_singleton, o.mem n]
    exact Or.comm
  · rcases List.mem_append.mp hn with z | z
    · exact o.rg n z
    · rw [List.mem_singleton.mp z]; exact hv
theorem LsOk.wk {L0 : Nat} {ns : List Int} {ls : List (List Int)} {i i' : Nat} (o : LsOk L0 ns ls i) (h : i ≤ i') : LsOk L0 ns ls i' := ⟨o.len, o.mem, o.nd, Nat.le_trans o.tot h, Nat.le_trans o.nl h, o.rg⟩
theorem LsOk.gs {L0 : Nat} {ns : List Int} {ls : List (List Int)} {i : Nat} (o : LsOk L0 ns ls i) (h4 : L0 ≤ 4) (hi : i ≤ 12) : GsH (ls.filter fun g => !g.isEmpty) := by
  refine ⟨Nat.le_trans (List.length_filter_le _ _) (by rw [o.len]; exact h4), fun g hg z => ?_, fun g hg n hn => ?_, by rw [flat_filter]; exact o.nd, by rw [flat_filter]; exact Nat.le_trans o.tot hi⟩
  · rw [z] at hg
    have := (List.mem_filter.mp hg).2
    cases this
  · exact o.rg n ((o.mem n).mp (List.mem_flatten.mpr ⟨g, (List.mem_filter.mp hg).1, hn⟩))
theorem repl_ok (L0 : Nat) : LsOk L0 [] (List.replicate L0 []) 0 := by
  have e : ∀ n : Nat, (List.replicate n ([] : List Int)).flatten = [] := fun n => by
    induction n with
    | zero => rfl
    | succ n ih => rw [List.replicate_succ, List.flatten_cons, ih]; rfl
  exact ⟨List.length_replicate .., fun n => by rw [e], by rw [e]; exact List.nodup_nil, by rw [e]; exact Nat.le_refl _, Nat.le_refl _, fun n h => (List.not_mem_nil h).elim⟩
theorem forR1_evG3 {w : PWi} {P : PEnds} {ρ : Rho} {M : Mm} {pa : PTE} {gd : PTG} {p : PTS} (h : EvG pa w ρ M fun z => ∃ n : Int, z = .int n ∧ 0 ≤ n ∧ n ≤ 12) (k : ∀ n : Int, 0 ≤ n → n ≤ 12 → forR gd p w (rngD 0 n.toNat) P ρ M) : dFor (iR1 pa) gd p w P ρ M := h _ fun d hd => by
  obtain ⟨n, rfl, n0, n1⟩ := hd
  exact ⟨by omega, by omega, k n n0 n1⟩
theorem evg_tkG3 {w : PWi} {ρ : Rho} {M : Mm} {pa pb : PTE} {a : Addr} {G : D → Prop} (ha : Ev pa w ρ M (.raw (.ref a))) (hb : EvG pb w ρ M G) (hm : M a = some .draw) (hz : ∀ z, G z → ∃ k : Int, z = .int k ∧ 0 < k ∧ k ≤ 9) : EvG (dCall sp_take [] (dCons pa (dCons pb dNil))) w ρ M (fun z => ∃ k : Int, z = .int k ∧ 0 ≤ k ∧ k ≤ 8) := fun q hq =>
  ha _ (hb _ fun z h => by
    obtain ⟨k, rfl, k0, k1⟩ := hz z h
    exact ⟨hm, tk_of k0 (by omega), fun j j0 j1 => hq _ ⟨j, rfl, j0, by omega⟩⟩)
theorem ixN_at3 {n k : Nat} (h : k < n) : ixN n (k : Int) = some k := by
  unfold ixN
  rw [if_pos (by omega), if_pos (by omega)]
  congr 1
def cpL (g : List Int) : List D := g.map .int
def RG (c : Addr) (m : Int) (D0 : Addr) (ps : List Addr) (ns : List Int) (ls : List (List Int)) (y4 y5 y6 : Option Sv) : Rho := [some (.val (.raw (.ref c))), some (.val (.int m)), some (.own (ns.map .int)), some (bagLL D0 ps (ls.map cpL)), y4, y5, y6, none]
theorem sh__law_groups (C : Cl) : Shows (sp__law_groups C) 8 (rd__law_groups C) := by
  intro ds M q e hh
  obtain ⟨dr, x, rfl, hh⟩ := ar2_of hh
  obtain ⟨c, rfl, hm, hh⟩ := asDraw_of hh
  obtain ⟨m, rfl, m0, m1, hq⟩ := asI_of hh
  clear hh
  refine ⟨rfl, ?_⟩
  refine ⟨hm, tk_of (by decide) (by decide), fun t t0 t1 => ⟨by omega, by omega, ?_⟩⟩
  have hlen : (rngD 0 (2 + t).toNat).length = (2 + t).toNat := rngD_len
  refine ⟨by rw [hlen]; omega, fun x hx => trivial, ?_⟩
  rw [hlen]
  have hL : 2 ≤ (2 + t).toNat ∧ (2 + t).toNat ≤ 4 := by omega
  generalize (2 + t).toNat = L0 at hL
  intro D0 ps hps
  have e0 : (List.replicate L0 []).map cpL = List.replicate L0 [] := by rw [List.map_replicate]; rfl
  have el : ∀ (w : PWi) (ns : List Int) (ls : List (List Int)) (y4 y5 y6 : Option Sv), ls.length = L0 → Ev (dLenB 3) w (RG c m D0 ps ns ls y4 y5 y6) M (.int L0) := fun w ns ls y4 y5 y6 hl q hq => ⟨D0, ps, ls.map cpL, rfl, by rw [hps, List.length_map, hl], by rw [List.length_map, hl]; exact hq⟩
  have en : ∀ (w : PWi) (ns : List Int) (ls : List (List Int)) (y4 y5 y6 : Option Sv), ls.length = L0 → EvG (dOp fAdd (dLenB 3) (dCall sp_take [] (dCons (dVar 0) (dCons (dCall sp_pick [] (dCons (dVar 0) (dCons (dL (dLst (dCons (dC (.int 3)) (dCons (dC (.int 6)) (dCons (dC (.int 9)) dNil))))) dNil))) dNil)))) w (RG c m D0 ps ns ls y4 y5 y6) M (fun z => ∃ n : Int, z = .int n ∧ 0 ≤ n ∧ n ≤ 12) := fun w ns ls y4 y5 y6 hl => by
    have ep := evg_pick (w := w) (ρ := RG c m D0 ps ns ls y4 y5 y6) (M := M) (pa := dVar 0) (pb := dL (dLst (dCons (dC (.int 3)) (dCons (dC (.int 6)) (dCons (dC (.int 9)) dNil))))) (a := c) (l := [.int 3, .int 6, .int 9]) (ev_var rfl) (fun q hq => ⟨by show 3 ≤ 1000000; decide, hq⟩) hm ⟨by decide, by decide⟩
    refine evg_opR (el w ns ls y4 y5 y6 hl) (evg_tkG3 (ev_var rfl) ep hm fun z hz => ?_) fun y ⟨k, e, k0, k1⟩ => ⟨.int (L0 + k), by rw [e]; exact o2_add, _, rfl, by omega, by omega⟩
    simp only [List.mem_cons, List.not_mem_nil, or_false] at hz
    rcases hz with rfl | rfl | rfl
    · exact ⟨3, rfl, by decide, by decide⟩
    · exact ⟨6, rfl, by decide, by decide⟩
    · exact ⟨9, rfl, by decide, by decide⟩
  dsimp only
  refine sqStep ?_
  have hr : (st (st (startR 8 [.raw (.ref c), .int m]) 3 (bagLL D0 ps (List.replicate L0 []))) 2 (.own [])) = RG c m D0 ps [] (List.replicate L0 []) none none none := by unfold RG; rw [e0]; rfl
  show dFor _ _ _ _ _ (st (st (startR 8 [.raw (.ref c), .int m]) 3 (bagLL D0 ps (List.replicate L0 []))) 2 (.own [])) M
  rw [hr]
  refine forR1_evG3 (en _ _ _ _ _ _ (List.length_replicate ..)) fun n n0 n12 => ?_
  refine forR_ix (fun i ρ M2 => M2 = M ∧ ∃ ns ls y4 y5 y6, LsOk L0 ns ls i ∧ ρ = RG c m D0 ps ns ls y4 y5 y6) _ 0 ?_ ?_ _ _ ⟨rfl, _, _, none, none, none, repl_ok L0, rfl⟩
  · rintro i d hd F hF ρ M' ⟨rfl, ns, ls, y4, y5, y6, o, rfl⟩
    have hi12 : i < 12 := by
      have := (List.getElem?_eq_some_iff.mp hd).1
      rw [rngD_len] at this
      omega
    have o : LsOk L0 ns ls i := by rw [Nat.zero_add] at o; exact o
    rw [Nat.zero_add] at hF
    show dSeq (dSet 5 (dCall sp_take [] (dCons (dVar 0) (dCons (dOp fAdd (dVar 1) (dC (.int 1))) dNil)))) (dIfS (dTst (dOp (fInI true) (dVar 5) (dOwn 2))) (dSeq (dApp 2 (dVar 5)) (dSeq (dSet 6 (dCall sp_take [] (dCons (dVar 0) (dCons (dLenB 3) dNil)))) (dBagApp 3 (dVar 6) (dVar 5)))) dNext) _ _ (RG c m D0 ps ns ls (some (.val d)) y5 y6) M'
    refine sqStep (set_evg (evg_take (a := c) (n := m + 1) (ev_var rfl) (ev_op (ev_var rfl) ev_c o2_add) hm (tk_of (by omega) (by omega))) ?_)
    rintro _ ⟨v, rfl, v0, v1⟩
    show dIfS (dTst (dOp (fInI true) (dVar 5) (dOwn 2))) (dSeq (dApp 2 (dVar 5)) (dSeq (dSet 6 (dCall sp_take [] (dCons (dVar 0) (dCons (dLenB 3) dNil)))) (dBagApp 3 (dVar 6) (dVar 5)))) dNext _ _ (RG c m D0 ps ns ls (some (.val d)) (some (.val (.int v))) y6) M'
    have et : ∀ w, EvT (dTst (dOp (fInI true) (dVar 5) (dOwn 2))) w (RG c m D0 ps ns ls (some (.val d)) (some (.val (.int v))) y6) M' (!decide (v ∈ ns)) := fun w => evt (ev_op (ev_var (d := .int v) rfl) (ev_own (l := ns.map .int) rfl) (o2_inI (neg := true) (i := v) (y := .lst (ns.map .int)) (show itemsD (.lst (ns.map .int)) = some ns from intsOf_map ns)))
    by_cases cv : v ∈ ns
    · rw [decide_eq_true cv] at et
      refine et _ _ (itF rfl ?_)
      exact hF _ _ ⟨rfl, ns, ls, _, _, _, o.wk (Nat.le_succ _), rfl⟩
    · rw [decide_eq_false cv] at et
      refine et _ _ (itT rfl ?_)
      refine sqApp (l := ns.map .int) rfl (by rw [List.length_map]; have := o.nl; omega) (ev_var (d := .int v) rfl) ?_
      have e1 : st (RG c m D0 ps ns ls (some (.val d)) (some (.val (.int v))) y6) 2 (.own (ns.map D.int ++ [.int v])) = RG c m D0 ps (ns ++ [v]) ls (some (.val d)) (some (.val (.int v))) y6 := by unfold RG; rw [List.map_append]; rfl
      rw [e1]
      refine sqStep (set_evg (evg_take (a := c) (n := L0) (ev_var rfl) (el _ _ _ _ _ _ o.len) hm (tk_of (by omega) (by omega))) ?_)
      rintro _ ⟨u, rfl, u0, u1⟩
      obtain ⟨j, hj⟩ : ∃ j : Nat, u = j := ⟨u.toNat, by omega⟩
      subst hj
      have hjl : j < ls.length := by rw [o.len]; omega
      have hjg : ls[j]? = some ls[j] := List.getElem?_eq_getElem hjl
      have hlj : (ls[j]).length ≤ 12 := by
        have := flat_len (List.getElem_mem hjl)
        have := o.tot
        omega
      refine ⟨D0, ps, ls.map cpL, rfl, by rw [hps, List.length_map, o.len], j, j, cpL ls[j], rfl, ?_, by rw [List.getElem?_map, hjg]; rfl, ?_⟩
      · rw [List.length_map]; exact ixN_at3 hjl
      · refine ⟨by unfold cpL; rw [List.length_map]; omega, ?_⟩
        refine hF _ _ ⟨rfl, ns ++ [v], ls.set j (ls[j] ++ [v]), some (.val d), some (.val (.int v)), some (.val (.int j)), o.add cv ⟨v0, by omega⟩ hjg, ?_⟩
        have e2 : (ls.set j (ls[j] ++ [v])).map cpL = (ls.map cpL).set j (cpL ls[j] ++ [.int v]) := by rw [List.map_set]; unfold cpL; rw [List.map_append]; rfl
        unfold RG
        rw [e2]
        rfl
  · rintro ρ M' ⟨rfl, ns, ls, y4, y5, y6, o, rfl⟩
    rw [Nat.zero_add, rngD_len] at o
    have gh := o.gs hL.2 (by omega)
    dsimp only
    refine ⟨D0, ps, ls.map cpL, rfl, by rw [hps, List.length_map, o.len], ?_⟩
    have e3 : D.lst ((ls.map cpL).map .lst) = gsL ls := by unfold gsL; rw [List.map_map]; rfl
    rw [e3]
    have l4 := o.len
    refine ⟨rfl, ?_⟩
    refine compR_sel (c := fun g : List Int => D.lst (g.map .int)) (f := fun g => D.lst (g.map .int)) (p := fun g => !g.isEmpty) ls (fun g hg κ kf hκ => ?_) (by omega) ?_
    · refine ⟨by decide, ?_⟩
      refine o2_ne (okD_il g) rfl _ ?_
      rw [ne_lst0]
      exact hκ
    · exact ⟨M', MLe.refl _, hq _ gh⟩
end Px
set_option Elab.async false
set_option linter.all false
set_option maxRecDepth 100000
namespace Px
open PySem PySem.Spec PyProof.Rows L2
end Px
set_option Elab.async false
set_option linter.all false
set_option maxRecDepth 100000
namespace Px
open PySem PySem.Spec PyProof.Rows L2
section
variable {C : Cl} {hs c : List Int} {gs : List (List Int)} {M : Mm}
end
end Px
set_option Elab.async false
set_option linter.all false
set_option maxRecDepth 100000
namespace Px
open PySem PySem.Spec PyProof.Rows L2
end Px
set_option Elab.async false
set_option linter.all false
set_option maxRecDepth 100000
namespace Px
open PySem PySem.Spec PyProof.Rows L2
section
variable {C : Cl} {w : PWi} {M : Mm} {l : List D} {hs : List Int} {gs : List (List Int)} {a d : D}
end
end Px
set_option Elab.async false
set_option linter.all false
set_option maxRecDepth 100000
namespace Px
open PySem PySem.Spec PyProof.Rows L2
section
variable {C : Cl} {w : PWi} {M : Mm} {l : List D} {hs : List Int} {gs : List (List Int)}
end
end Px
set_option Elab.async false
set_option linter.all false
set_option maxRecDepth 100000
namespace Px
open PySem PySem.Spec PyProof.Rows L2
section
variable {w : PWi} {P : PEnds} {ρ : Rho} {M : Mm} {a : Addr} {pa pb pk : PTE}
theorem o1_lenI {es : List Int} : Op1 fLen (.lst (es.map .int)) (.int (es.length : Int)) := fun k hk => by show k (.int ((es.map D.int).length : Nat)); rw [List.length_map]; exact hk
end
section
variable {w : PWi} {P : PEnds} {ρ : Rho} {M : Mm} {pa : PTE}
end
def RowG (many : Int) (d : D) : Prop := isRowD d many = true ∧ RwG d
def lookV (hf : Int) (es gs : List Int) : D := .tup [.str "look", .int hf, .tup (es.map .int), .tup (gs.map .int)]
theorem rowG_look {hf many : Int} {es gs : List Int} (h : 1 ≤ hf ∧ hf ≤ 1000) (ha : asc es) (he : ∀ n ∈ es, 0 ≤ n ∧ n ≤ hf) (hl : es.length ≤ 12) (hm : many ≤ 20) (hg : ∀ n ∈ gs, 0 ≤ n ∧ n ≤ many - 1) (hn : gs.length = 2 * es.length + 1) : RowG many (lookV hf es gs) := by
  obtain ⟨h1, h2, _⟩ := look_row h.1 h.2 ha he hl hm hg hn
  exact ⟨h1, h2⟩
section
variable {C : Cl} {w : PWi} {P : PEnds} {M : Mm} {a : Addr} {hs : List Int} {many hf : Int} {l : List D} {es gs : List Int} {x4 x5 x6 x7 x8 : Option Sv}
end
end Px
set_option Elab.async false
set_option linter.all false
set_option maxRecDepth 100000
namespace Px
open PySem PySem.Spec PyProof.Rows L2
section
variable {C : Cl} {w : PWi} {P : PEnds} {M : Mm} {a : Addr} {l : List D} {j hf wy : Int} {es gs : List Int} {x4 x5 x6 x10 : Option Sv}
structure LkR (many hf : Int) (es gs : List Int) : Prop where
  h0 : 1 ≤ hf ∧ hf ≤ 1000
  ha : asc es
  he : ∀ n ∈ es, 0 ≤ n ∧ n ≤ hf
  hl : es.length ≤ 12
  hg : ∀ n ∈ gs, 0 ≤ n ∧ n ≤ many - 1
  hn : gs.length = 2 * es.length + 1
theorem LkR.row {many hf : Int} {es gs : List Int} (k : LkR many hf es gs) (hm : many ≤ 20) : RowG many (lookV hf es gs) := rowG_look k.h0 k.ha k.he k.hl hm k.hg k.hn
end
end Px
set_option Elab.async false
set_option linter.all false
set_option maxRecDepth 100000
namespace Px
open PySem PySem.Spec PyProof PyProof.Rows L2
def dgL (n : Int) : List Nat := TL.numL n.toNat
theorem dgL_dig {n : Int} {c : Nat} (h : c ∈ dgL n) : 48 ≤ c ∧ c ≤ 57 := by
  have := TL.numL_digits n.toNat c h
  omega
theorem dgL_inj {n m : Int} (h0 : 0 ≤ n) (h1 : 0 ≤ m) (h : dgL n = dgL m) : n = m := by
  have e := congrArg NumText.digitsVal h
  unfold dgL at e
  rw [TL.numL_val, TL.numL_val] at e
  omega
theorem cut_dig : ∀ {a a' r r' : List Nat} {c c' : Nat}, (∀ x ∈ a, 48 ≤ x ∧ x ≤ 57) → (∀ x ∈ a', 48 ≤ x ∧ x ≤ 57) → ¬ (48 ≤ c ∧ c ≤ 57) → ¬ (48 ≤ c' ∧ c' ≤ 57) → a ++ c :: r = a' ++ c' :: r' → a = a' ∧ c :: r = c' :: r'
  | [], [], _, _, _, _, _, _, _, _, h => ⟨rfl, h⟩
  | [], x :: a', _, _, _, _, _, h2, h3, _, h => by
    injection h with h4 h5
    exact absurd (h2 x List.mem_cons_self) (h4 ▸ h3)
  | x :: a, [], _, _, _, _, h1, _, _, h3, h => by
    injection h with h4 h5
    exact absurd (h1 x List.mem_cons_self) (h4 ▸ h3)
  | x :: a, y :: a', _, _, _, _, h1, h2, h3, h4, h => by
    injection h with h5 h6
    obtain ⟨e1, e2⟩ := cut_dig (fun z hz => h1 z (List.mem_cons_of_mem _ hz)) (fun z hz => h2 z (List.mem_cons_of_mem _ hz)) h3 h4 h6
    exact ⟨by rw [h5, e1], e2⟩
theorem cut_br {s : Nat} : ∀ {a a' r r' : List Nat}, s ∉ a → s ∉ a' → a ++ s :: r = a' ++ s :: r' → a = a' ∧ r = r'
  | [], [], _, _, _, _, h => by injection h with _ h; exact ⟨rfl, h⟩
  | [], x :: a', _, _, _, h2, h => by
    injection h with h4 h5
    exact absurd (h4 ▸ List.mem_cons_self) h2
  | x :: a, [], _, _, h1, _, h => by
    injection h with h4 h5
    exact absurd (h4 ▸ List.mem_cons_self) h1
  | x :: a, y :: a', _, _, h1, h2, h => by
    injection h with h5 h6
    obtain ⟨e1, e2⟩ := cut_br (fun z => h1 (List.mem_cons_of_mem _ z)) (fun z => h2 (List.mem_cons_of_mem _ z)) h6
    exact ⟨by rw [h5, e1], e2⟩
def seqL (f : α → List Nat) : List α → List Nat
  | [] => []
  | x :: r => 44 :: 32 :: (f x ++ seqL f r)
def brL (f : α → List Nat) : List α → List Nat
  | [] => [91, 93]
  | x :: r => 91 :: (f x ++ (seqL f r ++ [93]))
theorem tl_from (ts : List Str) : ∀ (k : Nat) (acc : Str), 0 < k → TL.tl (textFrom k acc ts) = TL.tl acc ++ seqL TL.tl ts := by
  induction ts with
  | nil => intro k acc _; show TL.tl acc = _ ++ []; rw [List.append_nil]
  | cons t ts ih =>
    intro k acc hk
    show TL.tl (textFrom (k + 1) (acc ++ (if k > 0 then ", " else "" : String) ++ t) ts) = _
    rw [ih (k + 1) _ (Nat.succ_pos k), if_pos hk, TL.tl_append, TL.tl_append]
    show TL.tl acc ++ [44, 32] ++ TL.tl t ++ seqL TL.tl ts = TL.tl acc ++ 44 :: 32 :: (TL.tl t ++ seqL TL.tl ts)
    simp
theorem tl_list : ∀ ts : List Str, TL.tl (listText ts) = brL TL.tl ts
  | [] => by decide +kernel
  | t :: ts => by
    show TL.tl (textFrom 1 ("[" ++ (if 0 > 0 then ", " else "" : String) ++ t) ts ++ "]") = _
    rw [TL.tl_append, tl_from ts 1 _ (Nat.succ_pos 0), TL.tl_append, TL.tl_append]
    show ([91] ++ [] ++ TL.tl t ++ seqL TL.tl ts) ++ [93] = 91 :: (TL.tl t ++ (seqL TL.tl ts ++ [93]))
    simp
theorem seqL_map {α β : Type} (f : β → List Nat) (g : α → β) : ∀ l : List α, seqL f (l.map g) = seqL (fun x => f (g x)) l
  | [] => rfl
  | x :: l => by
    show 44 :: 32 :: (f (g x) ++ seqL f (l.map g)) = _
    rw [seqL_map f g l]; rfl
theorem brL_map {α β : Type} (f : β → List Nat) (g : α → β) : ∀ l : List α, brL f (l.map g) = brL (fun x => f (g x)) l
  | [] => rfl
  | x :: l => by
    show 91 :: (f (g x) ++ (seqL f (l.map g) ++ [93])) = _
    rw [seqL_map f g l]; rfl
theorem seqL_congr {α : Type} {f g : α → List Nat} : ∀ {l : List α}, (∀ x ∈ l, f x = g x) → seqL f l = seqL g l
  | [], _ => rfl
  | x :: l, h => by
    show 44 :: 32 :: (f x ++ seqL f l) = 44 :: 32 :: (g x ++ seqL g l)
    rw [h x List.mem_cons_self, seqL_congr fun y hy => h y (List.mem_cons_of_mem _ hy)]
theorem brL_congr {α : Type} {f g : α → List Nat} : ∀ {l : List α}, (∀ x ∈ l, f x = g x) → brL f l = brL g l
  | [], _ => rfl
  | x :: l, h => by
    show 91 :: (f x ++ (seqL f l ++ [93])) = 91 :: (g x ++ (seqL g l ++ [93]))
    rw [h x List.mem_cons_self, seqL_congr fun y hy => h y (List.mem_cons_of_mem _ hy)]
theorem all_map {α : Type} (g : α → PyData) : ∀ l : List α, PyData.shownAll (l.map g) = l.map fun x => PyData.shown (g x)
  | [] => rfl
  | x :: l => by
    show PyData.shown (g x) :: PyData.shownAll (l.map g) = _
    rw [all_map g l]; rfl
theorem toPyL_map {α : Type} (g : α → D) : ∀ l : List α, toPyL (l.map g) = l.map fun x => toPy (g x)
  | [] => rfl
  | x :: l => by
    show toPy (g x) :: toPyL (l.map g) = _
    rw [toPyL_map g l]; rfl
theorem tl_int {n : Int} (h : 0 ≤ n) : TL.tl (PyData.shown (.int n)) = dgL n := by
  obtain ⟨m, rfl⟩ := Int.eq_ofNat_of_zero_le h
  exact TL.tl_num m
theorem tl_group {g : List Int} (h : ∀ n ∈ g, 0 ≤ n) : TL.tl (PyData.shown (toPy (.lst (g.map .int)))) = brL dgL g := by
  show TL.tl (listText (PyData.shownAll (toPyL (g.map .int)))) = _
  rw [tl_list, toPyL_map, all_map, brL_map]
  exact brL_congr fun n hn => tl_int (h n hn)
def nmG (gs : List (List Int)) : Str := (toPy (gsL gs)).shown
theorem tl_groups {gs : List (List Int)} (h : ∀ g ∈ gs, ∀ n ∈ g, 0 ≤ n) : TL.tl (nmG gs) = brL (brL dgL) gs := by
  show TL.tl (listText (PyData.shownAll (toPyL (gs.map fun g => .lst (g.map .int))))) = _
  rw [tl_list, toPyL_map, all_map, brL_map]
  exact brL_congr fun g hg => tl_group (h g hg)
theorem seq_dig_head (g : List Int) : ∃ c r, seqL dgL g ++ [93] = c :: r ∧ ¬ (48 ≤ c ∧ c ≤ 57) := by
  cases g with
  | nil => exact ⟨93, [], rfl, by omega⟩
  | cons n g => exact ⟨44, _, rfl, by omega⟩
theorem seq_dig_inj : ∀ {g g' : List Int}, (∀ n ∈ g, 0 ≤ n) → (∀ n ∈ g', 0 ≤ n) → seqL dgL g ++ [93] = seqL dgL g' ++ [93] → g = g'
  | [], [], _, _, _ => rfl
  | [], n :: g', _, _, h => by injection h with h _; cases h
  | n :: g, [], _, _, h => by injection h with h _; cases h
  | n :: g, m :: g', h1, h2, h => by
    injection h with _ h
    injection h with _ h
    have h : (dgL n ++ seqL dgL g) ++ [93] = (dgL m ++ seqL dgL g') ++ [93] := h
    rw [List.append_assoc, List.append_assoc] at h
    obtain ⟨c, r, e1, c1⟩ := seq_dig_head g
    obtain ⟨c', r', e2, c2⟩ := seq_dig_head g'
    have h3 := h
    rw [e1, e2] at h3
    obtain ⟨a, b⟩ := cut_dig (fun x hx => dgL_dig hx) (fun x hx => dgL_dig hx) c1 c2 h3
    rw [← e1, ← e2] at b
    rw [dgL_inj (h1 n List.mem_cons_self) (h2 m List.mem_cons_self) a, seq_dig_inj (fun x hx => h1 x (List.mem_cons_of_mem _ hx)) (fun x hx => h2 x (List.mem_cons_of_mem _ hx)) b]
theorem dgL_ne (n : Int) : dgL n ≠ [] := TL.numL_ne _
theorem br_dig_inj : ∀ {g g' : List Int}, (∀ n ∈ g, 0 ≤ n) → (∀ n ∈ g', 0 ≤ n) → brL dgL g = brL dgL g' → g = g'
  | [], [], _, _, _ => rfl
  | [], n :: g', _, _, h => by
    injection h with _ h
    cases e : dgL n with
    | nil => exact absurd e (dgL_ne n)
    | cons c r =>
      rw [e] at h
      injection h with h _
      have := dgL_dig (n := n) (c := c) (by rw [e]; exact List.mem_cons_self)
      omega
  | n :: g, [], _, _, h => by
    injection h with _ h
    cases e : dgL n with
    | nil => exact absurd e (dgL_ne n)
    | cons c r =>
      rw [e] at h
      injection h with h _
      have := dgL_dig (n := n) (c := c) (by rw [e]; exact List.mem_cons_self)
      omega
  | n :: g, m :: g', h1, h2, h => by
    injection h with _ h
    obtain ⟨c, r, e1, c1⟩ := seq_dig_head g
    obtain ⟨c', r', e2, c2⟩ := seq_dig_head g'
    have h3 := h
    rw [e1, e2] at h3
    obtain ⟨a, b⟩ := cut_dig (fun x hx => dgL_dig hx) (fun x hx => dgL_dig hx) c1 c2 h3
    rw [← e1, ← e2] at b
    rw [dgL_inj (h1 n List.mem_cons_self) (h2 m List.mem_cons_self) a, seq_dig_inj (fun x hx => h1 x (List.mem_cons_of_mem _ hx)) (fun x hx => h2 x (List.mem_cons_of_mem _ hx)) b]
theorem seq_free (g : List Int) : 93 ∉ seqL dgL g := by
  induction g with
  | nil => exact List.not_mem_nil
  | cons n g ih =>
    intro h
    have h : 93 ∈ 44 :: 32 :: (dgL n ++ seqL dgL g) := h
    simp only [List.mem_cons, List.mem_append] at h
    rcases h with h | h | h | h
    · omega
    · omega
    · have := dgL_dig h; omega
    · exact ih h
theorem br_form (g : List Int) : ∃ a, brL dgL g = a ++ [93] ∧ 93 ∉ a := by
  cases g with
  | nil => exact ⟨[91], rfl, by simp⟩
  | cons n g =>
    refine ⟨91 :: (dgL n ++ seqL dgL g), ?_, fun h => ?_⟩
    · show 91 :: (dgL n ++ (seqL dgL g ++ [93])) = _
      rw [List.cons_append, List.append_assoc]
    · simp only [List.mem_cons, List.mem_append] at h
      rcases h with h | h | h
      · omega
      · have := dgL_dig h; omega
      · exact seq_free g h
theorem br_cut {g g' : List Int} {r r' : List Nat} (h1 : ∀ n ∈ g, 0 ≤ n) (h2 : ∀ n ∈ g', 0 ≤ n) (h : brL dgL g ++ r = brL dgL g' ++ r') : g = g' ∧ r = r' := by
  obtain ⟨a, e1, a1⟩ := br_form g
  obtain ⟨a', e2, a2⟩ := br_form g'
  rw [e1, e2, List.append_assoc, List.append_assoc] at h
  obtain ⟨b1, b2⟩ := cut_br a1 a2 h
  exact ⟨br_dig_inj h1 h2 (by rw [e1, e2, b1]), b2⟩
theorem seq_br_inj : ∀ {gs gs' : List (List Int)}, (∀ g ∈ gs, ∀ n ∈ g, 0 ≤ n) → (∀ g ∈ gs', ∀ n ∈ g, 0 ≤ n) → seqL (brL dgL) gs ++ [93] = seqL (brL dgL) gs' ++ [93] → gs = gs'
  | [], [], _, _, _ => rfl
  | [], g :: gs', _, _, h => by injection h with h _; cases h
  | g :: gs, [], _, _, h => by injection h with h _; cases h
  | g :: gs, g' :: gs', h1, h2, h => by
    injection h with _ h
    injection h with _ h
    have h : (brL dgL g ++ seqL (brL dgL) gs) ++ [93] = (brL dgL g' ++ seqL (brL dgL) gs') ++ [93] := h
    rw [List.append_assoc, List.append_assoc] at h
    obtain ⟨a, b⟩ := br_cut (h1 g List.mem_cons_self) (h2 g' List.mem_cons_self) h
    rw [a, seq_br_inj (fun x hx => h1 x (List.mem_cons_of_mem _ hx)) (fun x hx => h2 x (List.mem_cons_of_mem _ hx)) b]
theorem br_head (g : List Int) : ∃ r, brL dgL g = 91 :: r := by cases g <;> exact ⟨_, rfl⟩
theorem nmG_inj {gs gs' : List (List Int)} (h1 : ∀ g ∈ gs, ∀ n ∈ g, 0 ≤ n) (h2 : ∀ g ∈ gs', ∀ n ∈ g, 0 ≤ n) (h : nmG gs = nmG gs') : gs = gs' := by
  have e := congrArg TL.tl h
  rw [tl_groups h1, tl_groups h2] at e
  cases gs with
  | nil =>
    cases gs' with
    | nil => rfl
    | cons g gs' =>
      injection e with _ e
      obtain ⟨r, hr⟩ := br_head g
      rw [hr] at e
      injection e with e _; cases e
  | cons g gs =>
    cases gs' with
    | nil =>
      injection e with _ e
      obtain ⟨r, hr⟩ := br_head g
      rw [hr] at e
      injection e with e _; cases e
    | cons g' gs' =>
      injection e with _ e
      obtain ⟨a, b⟩ := br_cut (h1 g List.mem_cons_self) (h2 g' List.mem_cons_self) e
      rw [a, seq_br_inj (fun x hx => h1 x (List.mem_cons_of_mem _ hx)) (fun x hx => h2 x (List.mem_cons_of_mem _ hx)) b]
end Px
set_option Elab.async false
set_option linter.all false
set_option maxRecDepth 100000
namespace Px
open PySem PySem.Spec PyProof.Rows L2
def maxV (f : List (List Int) → Int) (gs : List (List Int)) (h : Int) : Int := match (valsA gs h).map fun v => f (kpv gs h v) with
  | [] => 0
  | x :: r => maxL x r
def manyV (gs : List (List Int)) (h : Int) : Bool := decide (1 < (valsA gs h).length)
def needI (hs : List Int) : Nat → List (List Int) → Int
  | 0, _ => 0
  | n + 1, gs => if mixed gs = true then minL 99 ((hs.filter fun h => manyV gs h).map fun h => 1 + maxV (needI hs n) gs h) else 0
theorem maxV_nn {f : List (List Int) → Int} (hf : ∀ g, 0 ≤ f g) (gs : List (List Int)) (h : Int) : 0 ≤ maxV f gs h := by
  unfold maxV
  split
  · exact Int.le_refl 0
  · rename_i x r e
    have h1 : maxL x r ∈ x :: r := maxL_mem r x
    rw [← e] at h1
    obtain ⟨v, _, hv⟩ := List.mem_map.mp h1
    rw [← hv]; exact hf _
theorem maxV_le {f : List (List Int) → Int} {gs : List (List Int)} {h m : Int} (h0 : 0 ≤ m) : maxV f gs h ≤ m ↔ ∀ v ∈ valsA gs h, f (kpv gs h v) ≤ m := by
  unfold maxV
  split
  · rename_i e
    have := List.map_eq_nil_iff.mp e
    rw [this]
    exact ⟨fun _ v hv => (List.not_mem_nil hv).elim, fun _ => h0⟩
  · rename_i x r e
    have h2 := maxL_le r x
    constructor
    · intro h1 v hv
      have h3 : f (kpv gs h v) ∈ x :: r := by rw [← e]; exact List.mem_map.mpr ⟨v, hv, rfl⟩
      rcases List.mem_cons.mp h3 with z | z
      · omega
      · have := h2.2 _ z; omega
    · intro h1
      have h3 : maxL x r ∈ x :: r := maxL_mem r x
      rw [← e] at h3
      obtain ⟨v, hv, ev⟩ := List.mem_map.mp h3
      rw [← ev]; exact h1 v hv
theorem needI_rg (hs : List Int) : ∀ (n : Nat) (gs : List (List Int)), 0 ≤ needI hs n gs ∧ needI hs n gs ≤ 99
  | 0, _ => ⟨Int.le_refl 0, by show (0 : Int) ≤ 99; decide⟩
  | n + 1, gs => by
    unfold needI
    split
    · refine ⟨?_, (minL_le _ _).1⟩
      have := minL_mem ((hs.filter fun h => manyV gs h).map fun h => 1 + maxV (needI hs n) gs h) 99
      rcases List.mem_cons.mp this with z | z
      · rw [z]; decide
      · obtain ⟨h, _, e⟩ := List.mem_map.mp z
        rw [← e]
        have := maxV_nn (fun g => (needI_rg hs n g).1) gs h
        omega
    · exact ⟨Int.le_refl 0, by decide⟩
theorem kpv_flat (gs : List (List Int)) (h v : Int) : (kpv gs h v).flatten = gs.flatten.filter fun n => eqN v (shI h n) := by
  unfold kpv kp
  induction gs with
  | nil => rfl
  | cons g gs ih => rw [List.map_cons, List.flatten_cons, List.flatten_cons, List.filter_append, ih]
theorem kpv_less {gs : List (List Int)} {h v : Int} (hh : 1 ≤ h ∧ h ≤ 1000) (hm : manyV gs h = true) (hv : v ∈ valsA gs h) : (kpv gs h v).flatten.length < gs.flatten.length := by
  rw [kpv_flat]
  refine List.length_filter_lt_length_iff_exists.mpr ?_
  have h1 := of_decide_eq_true hm
  obtain ⟨u, hu, huv⟩ : ∃ u ∈ valsA gs h, u ≠ v := by
    have ha := valsA_asc gs h
    cases e : valsA gs h with
    | nil => rw [e] at h1; exact absurd h1 (by decide)
    | cons a r =>
      cases r with
      | nil => rw [e] at h1; exact absurd h1 (show ¬ (1 < 1) by decide)
      | cons b r =>
        rw [e] at ha
        have hab := (List.pairwise_cons.mp ha).1 b List.mem_cons_self
        by_cases c : a = v
        · exact ⟨b, by simp, by omega⟩
        · exact ⟨a, by simp, c⟩
  obtain ⟨x, hx, e⟩ := List.mem_map.mp ((valsA_mem hh).mp hu)
  refine ⟨x, hx, ?_⟩
  unfold eqN
  rw [e, decide_eq_false huv]
  simp
theorem mixed_some {gs : List (List Int)} (h : mixed gs = true) : ∃ x, x ∈ gs.flatten := by
  have h := of_decide_eq_true h
  cases e : gs.filter fun g => !g.isEmpty with
  | nil => rw [e] at h; exact absurd h (by decide)
  | cons g r =>
    have hg : g ∈ gs.filter fun g => !g.isEmpty := by rw [e]; exact List.mem_cons_self
    obtain ⟨h1, h2⟩ := List.mem_filter.mp hg
    cases g with
    | nil => cases h2
    | cons x g => exact ⟨x, List.mem_flatten.mpr ⟨_, h1, List.mem_cons_self⟩⟩
theorem kpv_one {gs : List (List Int)} {h : Int} (hh : 1 ≤ h ∧ h ≤ 1000) (hm : manyV gs h = false) {v : Int} (hv : v ∈ valsA gs h) : kpv gs h v = gs := by
  have h1 := of_decide_eq_false hm
  have all : ∀ x ∈ gs.flatten, shI h x = v := fun x hx => by
    have hx2 : shI h x ∈ valsA gs h := (valsA_mem hh).mpr (List.mem_map.mpr ⟨x, hx, rfl⟩)
    cases e : valsA gs h with
    | nil => rw [e] at hv; cases hv
    | cons a r =>
      cases r with
      | nil =>
        rw [e] at hv hx2
        rw [List.mem_singleton.mp hv, List.mem_singleton.mp hx2]
      | cons b r => rw [e] at h1; simp at h1
  unfold kpv kp
  have key : ∀ gs' : List (List Int), (∀ g ∈ gs', g ∈ gs) → (gs'.map fun g => g.filter fun n => eqN v (shI h n)) = gs' := by
    intro gs'
    induction gs' with
    | nil => intro _; rfl
    | cons g gs' ih =>
      intro hg
      rw [List.map_cons, ih fun x hx => hg x (List.mem_cons_of_mem _ hx)]
      congr 1
      refine List.filter_eq_self.mpr fun x hx => ?_
      exact decide_eq_true (all x (List.mem_flatten.mpr ⟨g, hg g List.mem_cons_self, hx⟩))
  exact key gs fun g h => h
theorem need_le {hs : List Int} (hr : ∀ h ∈ hs, 1 ≤ h ∧ h ≤ 1000) : ∀ (m n : Nat) (gs : List (List Int)), gs.flatten.length < n → m < 99 → (needI hs n gs ≤ m ↔ opn hs m gs = false)
  | _, 0, _, h, _ => absurd h (Nat.not_lt_zero _)
  | 0, n + 1, gs, _, _ => by
    show (if mixed gs = true then _ else (0 : Int)) ≤ 0 ↔ mixed gs = false
    by_cases c : mixed gs = true
    · rw [if_pos c, c]
      refine ⟨fun h => ?_, fun h => by cases h⟩
      exfalso
      have := minL_mem ((hs.filter fun h => manyV gs h).map fun h => 1 + maxV (needI hs n) gs h) 99
      rcases List.mem_cons.mp this with z | z
      · rw [z] at h; omega
      · obtain ⟨k, _, e⟩ := List.mem_map.mp z
        have := maxV_nn (fun g => (needI_rg hs n g).1) gs k
        omega
    · rw [if_neg c]
      exact ⟨fun _ => by simpa using c, fun _ => Int.le_refl 0⟩
  | m + 1, n + 1, gs, hl, hm => by
    by_cases c : mixed gs = true
    case neg =>
      have e1 : needI hs (n + 1) gs = 0 := by unfold needI; rw [if_neg c]
      have e2 : opn hs (m + 1) gs = false := by
        cases e : opn hs (m + 1) gs with
        | false => rfl
        | true => exact absurd (opn_mixed e) c
      rw [e1, e2]
      exact ⟨fun _ => rfl, fun _ => by omega⟩
    have e1 : needI hs (n + 1) gs = minL 99 ((hs.filter fun h => manyV gs h).map fun h => 1 + maxV (needI hs n) gs h) := by unfold needI; rw [if_pos c]
    constructor
    · intro h
      rw [e1] at h
      have := minL_mem ((hs.filter fun h => manyV gs h).map fun h => 1 + maxV (needI hs n) gs h) 99
      rcases List.mem_cons.mp this with z | z
      · rw [z] at h; omega
      · obtain ⟨k, hk, e⟩ := List.mem_map.mp z
        obtain ⟨k1, k2⟩ := List.mem_filter.mp hk
        rw [← e] at h
        have h2 := (maxV_le (f := needI hs n) (gs := gs) (h := k) (m := (m : Int)) (by omega)).mp (by omega)
        show (mixed gs && hs.all fun h => (valsA gs h).any fun v => opn hs m (kpv gs h v)) = false
        rw [c, Bool.true_and]
        rw [← Bool.not_eq_true, List.all_eq_true]
        intro hall
        obtain ⟨v, hv, ho⟩ := List.any_eq_true.mp (hall k k1)
        have := (need_le hr m n (kpv gs k v) (by have := kpv_less (hr k k1) k2 hv; omega) (by omega)).mp (h2 v hv)
        rw [this] at ho; cases ho
    · intro h
      obtain ⟨k, hk, hv⟩ := free_some c h
      by_cases km : manyV gs k = true
      · have h2 : maxV (needI hs n) gs k ≤ m := (maxV_le (by omega)).mpr fun v hv2 => (need_le hr m n (kpv gs k v) (by have := kpv_less (hr k hk) km hv2; omega) (by omega)).mpr (hv v hv2)
        rw [e1]
        have := (minL_le ((hs.filter fun h => manyV gs h).map fun h => 1 + maxV (needI hs n) gs h) 99).2 (1 + maxV (needI hs n) gs k) (List.mem_map.mpr ⟨k, List.mem_filter.mpr ⟨hk, km⟩, rfl⟩)
        omega
      · obtain ⟨x, hx⟩ := mixed_some c
        have hx2 : shI k x ∈ valsA gs k := (valsA_mem (hr k hk)).mpr (List.mem_map.mpr ⟨x, hx, rfl⟩)
        have h3 := hv _ hx2
        rw [kpv_one (hr k hk) (by simpa using km) hx2] at h3
        have := (need_le hr m (n + 1) gs hl (by omega)).mpr h3
        omega
theorem need_stab {hs : List Int} (hr : ∀ h ∈ hs, 1 ≤ h ∧ h ≤ 1000) {n m : Nat} {gs : List (List Int)} (h1 : gs.flatten.length < n) (h2 : gs.flatten.length < m) : needI hs n gs = needI hs m gs := by
  have key : ∀ {n m : Nat}, gs.flatten.length < n → gs.flatten.length < m → needI hs m gs ≤ needI hs n gs := fun {n m} h1 h2 => by
    have r1 := needI_rg hs n gs
    have r2 := needI_rg hs m gs
    by_cases c : needI hs n gs < 99
    · have e : needI hs n gs = ((needI hs n gs).toNat : Nat) := by omega
      have := (need_le hr (needI hs n gs).toNat n gs h1 (by omega)).mp (by omega)
      have := (need_le hr (needI hs n gs).toNat m gs h2 (by omega)).mpr this
      omega
    · omega
  have := key h1 h2
  have := key h2 h1
  omega
end Px
set_option Elab.async false
set_option linter.all false
set_option maxRecDepth 100000
namespace Px
open PySem PySem.Spec PyProof.Rows L2
def subsH : List Int → List (List Int)
  | [] => [[]]
  | h :: r => subsH r ++ (subsH r).map fun s => h :: s
theorem subsH_len : ∀ hs : List Int, (subsH hs).length = 2 ^ hs.length
  | [] => rfl
  | h :: r => by
    show (subsH r ++ (subsH r).map fun s => h :: s).length = 2 ^ (r.length + 1)
    rw [List.length_append, List.length_map, subsH_len r, Nat.pow_succ]; omega
theorem subsH_filter (p : Int → Bool) : ∀ hs : List Int, hs.filter p ∈ subsH hs
  | [] => List.mem_singleton.mpr rfl
  | h :: r => by
    rw [List.filter_cons]
    split
    · exact List.mem_append_right _ (List.mem_map.mpr ⟨_, subsH_filter p r, rfl⟩)
    · exact List.mem_append_left _ (subsH_filter p r)
def sameAs (S : List Int) (x y : Int) : Bool := S.all fun h => decide (shI h y = shI h x)
def filt (S : List Int) (x : Int) (G : List (List Int)) : List (List Int) := G.map fun g => g.filter (sameAs S x)
def candG (hs : List Int) (G : List (List Int)) : List (List (List Int)) := (subsH hs).flatMap fun S => G.flatten.map fun x => filt S x G
def RchG (hs : List Int) (G gs : List (List Int)) : Prop := ∃ (p : Int → Bool) (x : Int), x ∈ G.flatten ∧ gs = filt (hs.filter p) x G
theorem RchG.cand {hs : List Int} {G gs : List (List Int)} (h : RchG hs G gs) : gs ∈ candG hs G := by
  obtain ⟨p, x, hx, rfl⟩ := h
  exact List.mem_flatMap.mpr ⟨_, subsH_filter p hs, List.mem_map.mpr ⟨x, hx, rfl⟩⟩
theorem RchG.sub {hs : List Int} {G gs : List (List Int)} (h : RchG hs G gs) : gs ∈ subG G := by
  obtain ⟨p, x, hx, rfl⟩ := h
  exact subG_filter _ (subG_self G)
theorem RchG_self {hs : List Int} {G : List (List Int)} (h : mixed G = true) : RchG hs G G := by
  obtain ⟨x, hx⟩ := mixed_some h
  refine ⟨fun _ => false, x, hx, ?_⟩
  have e : hs.filter (fun _ => false) = [] := List.filter_eq_nil_iff.mpr fun _ _ => by simp
  rw [e]
  unfold filt
  have key : ∀ G' : List (List Int), (G'.map fun g => g.filter (sameAs [] x)) = G' := by
    intro G'
    induction G' with
    | nil => rfl
    | cons g G' ih =>
      rw [List.map_cons, ih]
      congr 1
      exact List.filter_eq_self.mpr fun _ _ => rfl
  exact (key G).symm
theorem RchG.kp {hs : List Int} {G gs : List (List Int)} {h v : Int} (r : RchG hs G gs) (hh : h ∈ hs) (hr : 1 ≤ h ∧ h ≤ 1000) (hv : v ∈ valsA gs h) : RchG hs G (kpv gs h v) := by
  obtain ⟨p, x, hx, rfl⟩ := r
  obtain ⟨x', hx', rfl⟩ := List.mem_map.mp ((valsA_mem hr).mp hv)
  obtain ⟨s, hs1, hs2⟩ := List.mem_flatten.mp hx'
  obtain ⟨g, hg, rfl⟩ := List.mem_map.mp hs1
  obtain ⟨h1, h2⟩ := List.mem_filter.mp hs2
  have h2 := List.all_eq_true.mp h2
  refine ⟨fun k => p k || decide (k = h), x', List.mem_flatten.mpr ⟨g, hg, h1⟩, ?_⟩
  unfold kpv Px.kp filt
  rw [List.map_map]
  refine List.map_congr_left fun g _ => ?_
  show (g.filter (sameAs (hs.filter p) x)).filter (fun n => eqN (shI h x') (shI h n)) = _
  rw [List.filter_filter]
  refine List.filter_congr fun y _ => ?_
  rw [Bool.eq_iff_iff, Bool.and_eq_true]
  constructor
  · rintro ⟨a, b⟩
    have b := List.all_eq_true.mp b
    refine List.all_eq_true.mpr fun k hk => ?_
    obtain ⟨k1, k2⟩ := List.mem_filter.mp hk
    rcases Bool.or_eq_true _ _ ▸ k2 with z | z
    · have e1 := of_decide_eq_true (b k (List.mem_filter.mpr ⟨k1, z⟩))
      have e2 := of_decide_eq_true (h2 k (List.mem_filter.mpr ⟨k1, z⟩))
      exact decide_eq_true (e1.trans e2.symm)
    · rw [of_decide_eq_true z]
      exact a
  · intro a
    have a := List.all_eq_true.mp a
    refine ⟨a h (List.mem_filter.mpr ⟨hh, by simp⟩), List.all_eq_true.mpr fun k hk => ?_⟩
    obtain ⟨k1, k2⟩ := List.mem_filter.mp hk
    have e1 := of_decide_eq_true (a k (List.mem_filter.mpr ⟨k1, by rw [k2]; rfl⟩))
    have e2 := of_decide_eq_true (h2 k hk)
    exact decide_eq_true (e1.trans e2)
theorem cand_len {hs : List Int} {G : List (List Int)} (h6 : hs.length ≤ 6) (h12 : G.flatten.length ≤ 12) : (candG hs G).length ≤ 768 := by
  unfold candG
  have e : ∀ l : List (List Int), (l.flatMap fun S => G.flatten.map fun x => filt S x G).length = l.length * G.flatten.length := by
    intro l
    induction l with
    | nil => simp
    | cons a l ih => rw [List.flatMap_cons, List.length_append, ih, List.length_map, List.length_cons, Nat.succ_mul]; omega
  rw [e, subsH_len]
  have : 2 ^ hs.length ≤ 2 ^ 6 := Nat.pow_le_pow_right (by decide) h6
  calc 2 ^ hs.length * G.flatten.length ≤ 2 ^ 6 * 12 := Nat.mul_le_mul this h12
    _ = 768 := by decide
def knW (hs : List Int) (g : List (List Int)) : Key × D := (.inr (nmG g), .int (needI hs 13 g))
def KW (hs : List Int) (G : List (List Int)) (c : Addr) (M : Mm) : Prop := ∃ L : List (List (List Int)), M c = some (.dik (L.map (knW hs))) ∧ L.Nodup ∧ ∀ g ∈ L, RchG hs G g
def NnG (G : List (List Int)) : Prop := ∀ g ∈ G, ∀ n ∈ g, 0 ≤ n
theorem RchG.nn {hs : List Int} {G gs : List (List Int)} (o : NnG G) (h : RchG hs G gs) : NnG gs := fun s hs n hn => by
  obtain ⟨g, hg, _, h2⟩ := (subG_each h.sub).2 s hs
  exact o g hg n (h2 n hn)
theorem get_kw {hs : List Int} {G gs : List (List Int)} (o : NnG G) (r : RchG hs G gs) : ∀ {L : List (List (List Int))}, (∀ g ∈ L, RchG hs G g) → getDK (L.map (knW hs)) (.inr (nmG gs)) = if gs ∈ L then some (.int (needI hs 13 gs)) else none
  | [], _ => by rw [if_neg List.not_mem_nil]; rfl
  | g :: L, h => by
    rw [List.map_cons]
    by_cases c : g = gs
    · subst c
      rw [getDK_pos (show (knW hs g).1 = .inr (nmG g) from rfl), if_pos List.mem_cons_self]; rfl
    · have e : ¬ (knW hs g).1 = (.inr (nmG gs) : Key) := fun z => c (nmG_inj ((h g List.mem_cons_self).nn o) (r.nn o) (Sum.inr.inj z))
      rw [getDK_neg e, get_kw o r fun x hx => h x (List.mem_cons_of_mem _ hx)]
      have : gs ∈ g :: L ↔ gs ∈ L := by rw [List.mem_cons]; exact ⟨fun z => z.elim (fun y => absurd y.symm c) id, .inr⟩
      by_cases d : gs ∈ L
      · rw [if_pos d, if_pos (this.mpr d)]
      · rw [if_neg d, if_neg fun z => d (this.mp z)]
theorem put_kw {hs : List Int} {G gs : List (List Int)} (o : NnG G) (r : RchG hs G gs) {L : List (List (List Int))} (h : ∀ g ∈ L, RchG hs G g) : putDK (L.map (knW hs)) (.inr (nmG gs)) (.int (needI hs 13 gs)) = (if gs ∈ L then L else L ++ [gs]).map (knW hs) := by
  unfold putDK
  rw [any_DK, get_kw o r h]
  by_cases c : gs ∈ L
  · rw [if_pos c, if_pos (show (some (D.int (needI hs 13 gs))).isSome = true from rfl), if_pos c, List.map_map]
    refine List.map_congr_left fun g hg => ?_
    show (if (knW hs g).1 = (.inr (nmG gs) : Key) then ((knW hs g).1, D.int (needI hs 13 gs)) else knW hs g) = knW hs g
    split
    · rename_i z
      rw [← nmG_inj ((h g hg).nn o) (r.nn o) (Sum.inr.inj z)]; rfl
    · rfl
  · rw [if_neg c, if_neg (by simp), if_neg c, List.map_append]; rfl
theorem KW.len {hs : List Int} {G : List (List Int)} (oh : HsOk hs) (h12 : G.flatten.length ≤ 12) {L : List (List (List Int))} (nd : L.Nodup) (h : ∀ g ∈ L, RchG hs G g) : L.length ≤ 768 :=
  Nat.le_trans (nd_len (ns := candG hs G) nd fun x hx => (h x hx).cand) (cand_len oh.2.1 h12)
theorem KW.put {hs : List Int} {G gs : List (List Int)} {c : Addr} {M : Mm} (o : NnG G) (r : RchG hs G gs) {L : List (List (List Int))} (nd : L.Nodup) (h : ∀ g ∈ L, RchG hs G g) : KW hs G c (updM M c (.dik (putDK (L.map (knW hs)) (.inr (nmG gs)) (.int (needI hs 13 gs))))) := by
  rw [put_kw o r h]
  refine ⟨_, updM_same, ?_, ?_⟩
  · split
    · exact nd
    · rename_i c
      exact List.nodup_append.mpr ⟨nd, by simp, fun a ha b hb z => c (by rw [← List.mem_singleton.mp hb, ← z]; exact ha)⟩
  · intro x hx
    split at hx
    · exact h x hx
    · rcases List.mem_append.mp hx with z | z
      · exact h x z
      · rw [List.mem_singleton.mp z]; exact r
end Px
set_option Elab.async false
set_option linter.all false
set_option maxRecDepth 100000
namespace Px
open PySem PySem.Spec PyProof.Rows L2
def spn__law_needed (C : Cl) : Nat → PSp
  | 0 => spNever
  | n + 1 => fun ds M q _ => ar3 ds fun a d k => ∃ hs G gs c, a = .lst (hs.map .int) ∧ HsOk hs ∧ G12 G ∧ NnG G ∧ d = gsL gs ∧ RchG hs G gs ∧ gs.flatten.length ≤ n ∧ k = .raw (.ref c) ∧ KW hs G c M ∧ ∀ M', Oth c M M' → KW hs G c M' → q (.int (needI hs 13 gs)) M'
def sp__law_needed (C : Cl) : PSp := spn__law_needed C 14
theorem ln__law_needed (C : Cl) : ∀ n ds M q e, spn__law_needed C n ds M q e → ds.length = 3
  | 0, _, _, _, _, h => h.elim
  | n + 1, ds, M, q, e, h => by obtain ⟨_, _, _, rfl, _⟩ := ar3_of h; rfl
def rd__law_needed (C : Cl) (n : Nat) : PTS := (dSeq (dIfS (dNot (dTst (dCall (sp__law_mixed C) [] (dCons (dVar 1) dNil)))) (dRet (dC (.int 0))) dNext)
    (dSeq (dPar 3 4 (dCons (dB1 fRepr (dVar 1)) (dCons (dL (dLst dNil)) dNil)))
    (dSeq (dFor (iA (dVar 1)) (gNm 5) (dSet 4 (dOp fAdd (dVar 4) (dL (dG1 fListC (dVar 5))))))
    (dSeq (dIfS (dTst (dInDk true (dVar 3) (dVar 2))) (dSeq (dSetO 6 (dLst (dCons (dC (.int 99)) dNil)))
    (dSeq (dFor (iA (dVar 0)) (gNm 7) (dSeq (dSet 8 (dL (dSortL (dL (dComp [10] (iA (dVar 4)) (gNm 10) dYes (dCall (sp__law_shown C) [] (dCons (dVar 7) (dCons (dVar 10) dNil))))))))
    (dIfS (dTst (dOp fGt (dB1 fLen (dVar 8)) (dC (.int 1)))) (dSeq (dSet 9 (dL (dComp [11] (iA (dVar 8)) (gNm 11) dYes (dCall (sp__law_left C) [] (dCons (dVar 1) (dCons (dVar 7) (dCons (dVar 11) dNil)))))))
    (dApp 6 (dOp fAdd (dC (.int 1)) (dB1 fMax (dL (dComp [12] (iA (dVar 9)) (gNm 12) dYes (dCall (spn__law_needed C n) [] (dCons (dVar 0) (dCons (dVar 12) (dCons (dVar 2) dNil)))))))))) dNext)))
    (dPutDk (dB1 fMin (dOwn 6)) (dVar 2) (dVar 3)))) dNext)
    (dRet (dGetDk (dVar 2) (dVar 3)))))))
theorem rch_len {hs : List Int} {G gs : List (List Int)} (h : RchG hs G gs) : gs.flatten.length ≤ G.flatten.length := by
  obtain ⟨p, x, _, rfl⟩ := h
  have e : ∀ G' : List (List Int), (filt (hs.filter p) x G').flatten.length ≤ G'.flatten.length := by
    intro G'
    induction G' with
    | nil => exact Nat.le_refl _
    | cons g G' ih =>
      show ((g.filter _) ++ (filt (hs.filter p) x G').flatten).length ≤ (g ++ G'.flatten).length
      rw [List.length_append, List.length_append]
      have := List.length_filter_le (sameAs (hs.filter p) x) g
      omega
  exact e G
theorem shw_groups {gs : List (List Int)} (o : GsG gs) : Shw 2 100000 (gsL gs) := by
  have h1 : ShwL 1 ((3000 + 1) * (gs.map fun g => D.lst (g.map .int)).length) (gs.map fun g => D.lst (g.map .int)) := .all fun d hd => by
    obtain ⟨g, hg, rfl⟩ := List.mem_map.mp hd
    obtain ⟨g1, g2⟩ := o.each g hg
    have h2 := Shw.lst (Shw.ints (n := 0) (ns := g) fun i hi => by have := g2 i hi; exact ⟨by omega, by omega⟩)
    exact ⟨h2.ok, h2.sh, h2.lv, Nat.le_trans h2.wt (by omega)⟩
  have h3 := Shw.lst h1
  rw [List.length_map] at h3
  have := o.len
  exact ⟨h3.ok, h3.sh, h3.lv, Nat.le_trans h3.wt (by omega)⟩
theorem ev_listLW {w : PWi} {ρ : Rho} {M : Mm} {pa : PTE} {l : List D} (h : Ev pa w ρ M (.lst l)) : Ev (dL (dG1 fListC pa)) w ρ M (.lst l) := fun q hq => h _ hq
theorem asDk_at {c : Addr} {M : Mm} {l : List (Key × D)} {f : Addr → List (Key × D) → Prop} (h : M c = some (.dik l)) (k : f c l) : asDk (.raw (.ref c)) M f := by
  unfold asDk
  dsimp only
  rw [h]
  exact k
section
variable {C : Cl} {w : PWi} {P : PEnds} {hs : List Int} {G gs : List (List Int)} {c : Addr} {x3 x4 x5 x6 x7 x8 x9 : Option Sv} {h : Int}
abbrev ρN (hs : List Int) (gs : List (List Int)) (c : Addr) (x3 x4 x5 x6 x7 x8 x9 : Option Sv) : Rho := [some (.val (.lst (hs.map .int))), some (.val (gsL gs)), some (.val (.raw (.ref c))), x3, x4, x5, x6, x7, x8, x9, none, none, none]
abbrev nsV (gs : List (List Int)) : Option Sv := some (.val (.lst (gs.flatten.map .int)))
theorem ne_vals {M : Mm} (o : GsG gs) (hh : 1 ≤ h ∧ h ≤ 1000) (h12 : gs.flatten.length ≤ 12) : Ev (dL (dSortL (dL (dComp [10] (iA (dVar 4)) (gNm 10) dYes (dCall (sp__law_shown C) [] (dCons (dVar 7) (dCons (dVar 10) dNil))))))) w (ρN hs gs c x3 (nsV gs) x5 x6 (some (.val (.int h))) x8 x9) M (.lst ((valsA gs h).map .int)) := fun q hq => by
  refine ⟨rfl, ?_⟩
  refine iA_sq (l := gs.flatten.map .int) (ev_var rfl) (.inl rfl) ?_
  refine compR_on (c := D.int) (f := fun n => D.int (shI h n)) gs.flatten (fun n hn κ kf hκ => ?_) (by omega) ?_
  · obtain ⟨g, hg, hn2⟩ := List.mem_flatten.mp hn
    exact ⟨hh, (o.each g hg).2 n hn2, hκ⟩
  · refine ⟨seenL gs h, .inl (by unfold seenL; rw [List.map_map]; rfl), by unfold seenL; rw [List.length_map]; omega, fun ms m1 m2 m3 => ?_⟩
    have e : ms = valsA gs h := asc_uniq m1 (valsA_asc gs h) fun k => (m2 k).trans (valsA_mem hh).symm
    rw [e]
    exact hq
theorem ne_later {M : Mm} (o : GsG gs) (hh : 1 ≤ h ∧ h ≤ 1000) (hl : (valsA gs h).length ≤ 1001) : Ev (dL (dComp [11] (iA (dVar 8)) (gNm 11) dYes (dCall (sp__law_left C) [] (dCons (dVar 1) (dCons (dVar 7) (dCons (dVar 11) dNil)))))) w (ρN hs gs c x3 x4 x5 x6 (some (.val (.int h))) (some (.val (.lst ((valsA gs h).map .int)))) x9) M (.lst ((valsA gs h).map fun v => gsL (kpv gs h v))) := fun q hq => by
  refine ⟨rfl, ?_⟩
  refine iA_sq (l := (valsA gs h).map .int) (ev_var rfl) (.inl rfl) ?_
  refine compR_on (c := D.int) (f := fun v => gsL (kpv gs h v)) (valsA gs h) (fun v hv κ kf hκ => ?_) (by omega) hq
  refine ⟨gs, rfl, o, hh, rfl, ?_⟩
  rw [eqV_eqN]
  exact hκ
theorem ne_comp {n : Nat} (oh : HsOk hs) (o : G12 G) (nn : NnG G) (r : RchG hs G gs) (hh : h ∈ hs) (hm : manyV gs h = true) (hn : gs.flatten.length ≤ n + 1) {M0 : Mm} : ∀ (vs : List Int) (acc : List D) (M1 : Mm) (K : List D → Mm → Prop), (∀ v ∈ vs, v ∈ valsA gs h) → acc.length + vs.length ≤ 1001 → KW hs G c M1 → Oth c M0 M1 →
    (∀ M2, KW hs G c M2 → Oth c M0 M2 → K (acc ++ vs.map fun v => .int (needI hs 13 (kpv gs h v))) M2) →
    compR (gNm 12) dYes (dCall (spn__law_needed C (n + 1)) [] (dCons (dVar 0) (dCons (dVar 12) (dCons (dVar 2) dNil)))) (ρN hs gs c x3 x4 x5 x6 x7 x8 x9) (vs.map fun v => gsL (kpv gs h v)) acc M1 K := by
  have hr := oh.2.2 h hh
  intro vs
  induction vs with
  | nil => intro acc M1 K _ _ hk ho hK; have := hK M1 hk ho; rw [List.map_nil, List.append_nil] at this; exact this
  | cons v vs ih =>
    intro acc M1 K hv hl hk ho hK
    rw [List.length_cons] at hl
    have hvv := hv v List.mem_cons_self
    have hlt := kpv_less hr hm hvv
    have ea : EvA (dCons (dVar 0) (dCons (dVar 12) (dCons (dVar 2) dNil))) w0 [some (.val (.lst (hs.map .int))), some (.val (gsL gs)), some (.val (.raw (.ref c))), x3, x4, x5, x6, x7, x8, x9, none, none, some (.val (gsL (kpv gs h v)))] M1 [.lst (hs.map .int), gsL (kpv gs h v), .raw (.ref c)] :=
      eva_cons (ev_var rfl) (eva_cons (ev_var rfl) (eva_cons (ev_var rfl) eva_nil))
    refine comp_nm ?_
    show dCall (spn__law_needed C (n + 1)) [] (dCons (dVar 0) (dCons (dVar 12) (dCons (dVar 2) dNil))) w0 [some (.val (.lst (hs.map .int))), some (.val (gsL gs)), some (.val (.raw (.ref c))), x3, x4, x5, x6, x7, x8, x9, none, none, some (.val (gsL (kpv gs h v)))] M1 _
    refine call_ev (R := fun d M2 => d = .int (needI hs 13 (kpv gs h v)) ∧ Oth c M1 M2 ∧ KW hs G c M2) ea (fun q e hq => ⟨hs, G, kpv gs h v, c, rfl, oh, o, nn, rfl, r.kp hh hr hvv, by omega, rfl, hk, fun M2 h2 h3 => hq _ M2 ⟨rfl, h2, h3⟩⟩) fun d M2 ⟨hd, ho2, hk3⟩ => ?_
    subst hd
    refine ⟨by omega, ?_⟩
    refine ih (acc ++ [_]) M2 K (fun u hu => hv u (List.mem_cons_of_mem _ hu)) (by rw [List.length_append, List.length_singleton]; omega) hk3 (ho.trans ho2) fun M3 h3 h4 => ?_
    rw [List.append_assoc]
    exact hK M3 h3 h4
def neBody (C : Cl) (n : Nat) : PTS := (dSeq (dSet 8 (dL (dSortL (dL (dComp [10] (iA (dVar 4)) (gNm 10) dYes (dCall (sp__law_shown C) [] (dCons (dVar 7) (dCons (dVar 10) dNil))))))))
    (dIfS (dTst (dOp fGt (dB1 fLen (dVar 8)) (dC (.int 1)))) (dSeq (dSet 9 (dL (dComp [11] (iA (dVar 8)) (gNm 11) dYes (dCall (sp__law_left C) [] (dCons (dVar 1) (dCons (dVar 7) (dCons (dVar 11) dNil)))))))
    (dApp 6 (dOp fAdd (dC (.int 1)) (dB1 fMax (dL (dComp [12] (iA (dVar 9)) (gNm 12) dYes (dCall (spn__law_needed C n) [] (dCons (dVar 0) (dCons (dVar 12) (dCons (dVar 2) dNil)))))))))) dNext))
def neOne (hs : List Int) (gs : List (List Int)) (h : Int) : Int := 1 + maxV (needI hs 13) gs h
theorem ne_body {n : Nat} (oh : HsOk hs) (o : G12 G) (nn : NnG G) (r : RchG hs G gs) (hh : h ∈ hs) (hn : gs.flatten.length ≤ n + 1) {M0 M1 : Mm} {acc : List Int} (hl : acc.length ≤ 100) (hk : KW hs G c M1) (ho : Oth c M0 M1)
    (hK : ∀ x8 x9 M2, KW hs G c M2 → Oth c M0 M2 → P.nx (ρN hs gs c x3 (nsV gs) x5 (some (.own ((acc ++ if manyV gs h = true then [neOne hs gs h] else []).map .int))) (some (.val (.int h))) x8 x9) M2) :
    neBody C (n + 1) w P (ρN hs gs c x3 (nsV gs) x5 (some (.own (acc.map .int))) (some (.val (.int h))) x8 x9) M1 := by
  have hr := oh.2.2 h hh
  have og := subG_g o.g r.sub
  have h12 : gs.flatten.length ≤ 12 := Nat.le_trans (rch_len r) o.tot
  have hvl : (valsA gs h).length ≤ 1001 := by unfold valsA; exact Nat.le_trans (List.length_filter_le _ _) (by rw [ixs_len]; exact Nat.le_refl _)
  refine sqSet (ne_vals (w := w) (M := M1) og hr h12) ?_
  show dIfS _ _ _ w P (ρN hs gs c x3 (nsV gs) x5 (some (.own (acc.map .int))) (some (.val (.int h))) (some (.val (.lst ((valsA gs h).map .int)))) x9) M1
  have e1 : EvT (dTst (dOp fGt (dB1 fLen (dVar 8)) (dC (.int 1)))) w (ρN hs gs c x3 (nsV gs) x5 (some (.own (acc.map .int))) (some (.val (.int h))) (some (.val (.lst ((valsA gs h).map .int)))) x9) M1 (decide ((1 : Int) < ((valsA gs h).length : Int))) := evt (ev_op (f := fCmp fun i j => decide (j < i)) (ev_b1 (ev_var (i := 8) (d := .lst ((valsA gs h).map .int)) rfl) o1_lenI) (ev_c (d := .int 1)) o2_cmp)
  have em : decide ((1 : Int) < ((valsA gs h).length : Int)) = manyV gs h := by unfold manyV; rw [Bool.eq_iff_iff, decide_eq_true_iff, decide_eq_true_iff]; omega
  rw [em] at e1
  by_cases hm : manyV gs h = true
  · rw [hm] at e1
    rw [if_pos hm] at hK
    refine e1 _ (itT rfl ?_)
    refine sqSet (ne_later (w := w) (M := M1) (x4 := nsV gs) og hr hvl) ?_
    show dApp 6 _ w P (ρN hs gs c x3 (nsV gs) x5 (some (.own (acc.map .int))) (some (.val (.int h))) (some (.val (.lst ((valsA gs h).map .int)))) (some (.val (.lst ((valsA gs h).map fun v => gsL (kpv gs h v)))))) M1
    have ec : ∀ K : PQ, (∀ M2, KW hs G c M2 → Oth c M0 M2 → K (.int (neOne hs gs h)) M2) → (dOp fAdd (dC (.int 1)) (dB1 fMax (dL (dComp [12] (iA (dVar 9)) (gNm 12) dYes (dCall (spn__law_needed C (n + 1)) [] (dCons (dVar 0) (dCons (dVar 12) (dCons (dVar 2) dNil)))))))) w (ρN hs gs c x3 (nsV gs) x5 (some (.own (acc.map .int))) (some (.val (.int h))) (some (.val (.lst ((valsA gs h).map .int)))) (some (.val (.lst ((valsA gs h).map fun v => gsL (kpv gs h v)))))) M1 K := fun K hK => by
      refine ⟨rfl, ?_⟩
      refine iA_sq (l := (valsA gs h).map fun v => gsL (kpv gs h v)) (ev_var rfl) (.inl rfl) ?_
      refine ne_comp (n := n) oh o nn r hh hm hn (valsA gs h) [] M1 _ (fun v hv => hv) (by simpa using hvl) hk ho fun M2 h2 h3 => ?_
      rw [List.nil_append]
      have hmv : 1 < (valsA gs h).length := of_decide_eq_true hm
      cases ev : (valsA gs h).map fun v => needI hs 13 (kpv gs h v) with
      | nil =>
        have := List.map_eq_nil_iff.mp ev
        rw [this] at hmv
        exact absurd hmv (by decide)
      | cons m ms =>
        have e2 : ((valsA gs h).map fun v => D.int (needI hs 13 (kpv gs h v))) = (m :: ms).map .int := by rw [← ev, List.map_map]; rfl
        have e3 : neOne hs gs h = 1 + maxL m ms := by unfold neOne maxV; rw [ev]
        rw [e2]
        have := hK M2 h2 h3
        rw [e3] at this
        show fMax (.lst ((m :: ms).map .int)) _
        unfold fMax
        dsimp only
        rw [intsOf_map]
        exact this
    refine ⟨trivial, ?_⟩
    refine ec _ fun M2 h2 h3 => ?_
    refine ⟨by rw [List.length_map]; omega, ?_⟩
    have := hK (some (.val (.lst ((valsA gs h).map .int)))) (some (.val (.lst ((valsA gs h).map fun v => gsL (kpv gs h v))))) M2 h2 h3
    rw [List.map_append] at this
    exact this
  · have hm : manyV gs h = false := by simpa using hm
    rw [hm] at e1
    rw [if_neg (by rw [hm]; decide), List.append_nil] at hK
    refine e1 _ (itF rfl ?_)
    exact hK _ _ M1 hk ho
theorem ne_loop {n : Nat} (oh : HsOk hs) (o : G12 G) (nn : NnG G) (r : RchG hs G gs) (hn : gs.flatten.length ≤ n + 1) {M0 : Mm} : ∀ (l : List Int) (acc : List Int) (M1 : Mm) (x7 x8 x9 : Option Sv), (∀ h ∈ l, h ∈ hs) → acc.length + l.length ≤ 100 → KW hs G c M1 → Oth c M0 M1 →
    (∀ x7 x8 x9 M2, KW hs G c M2 → Oth c M0 M2 → P.nx (ρN hs gs c x3 (nsV gs) x5 (some (.own ((acc ++ (l.filter fun h => manyV gs h).map (neOne hs gs)).map .int))) x7 x8 x9) M2) →
    forR (gNm 7) (neBody C (n + 1)) w (l.map .int) P (ρN hs gs c x3 (nsV gs) x5 (some (.own (acc.map .int))) x7 x8 x9) M1 := by
  intro l
  induction l with
  | nil => intro acc M1 x7 x8 x9 _ _ hk ho hK; have := hK x7 x8 x9 M1 hk ho; rw [List.filter_nil, List.map_nil, List.append_nil] at this; exact this
  | cons h l ih =>
    intro acc M1 x7 x8 x9 hl hc hk ho hK
    rw [List.length_cons] at hc
    show neBody C (n + 1) w _ (ρN hs gs c x3 (nsV gs) x5 (some (.own (acc.map .int))) (some (.val (.int h))) x8 x9) M1
    refine ne_body (C := C) (w := w) (n := n) oh o nn r (hl h List.mem_cons_self) hn (by omega) hk ho fun y8 y9 M2 h2 h3 => ?_
    refine ih _ M2 _ y8 y9 (fun k hk => hl k (List.mem_cons_of_mem _ hk)) ?_ h2 h3 fun z7 z8 z9 M3 h4 h5 => ?_
    · rw [List.length_append]; split <;> simp <;> omega
    · have := hK z7 z8 z9 M3 h4 h5
      rw [List.filter_cons] at this
      rw [List.append_assoc]
      by_cases hm : manyV gs h = true
      · rw [if_pos hm] at this ⊢
        exact this
      · rw [if_neg hm] at this ⊢
        exact this
theorem ne_flat {M : Mm} : ∀ (l : List (List Int)) (acc : List Int) (x5 : Option Sv), (acc.length + l.flatten.length ≤ 1000) → (∀ x5, P.nx (ρN hs gs c x3 (some (.val (.lst ((acc ++ l.flatten).map .int)))) x5 x6 x7 x8 x9) M) →
    forR (gNm 5) (dSet 4 (dOp fAdd (dVar 4) (dL (dG1 fListC (dVar 5))))) w (l.map fun g => D.lst (g.map .int)) P (ρN hs gs c x3 (some (.val (.lst (acc.map .int)))) x5 x6 x7 x8 x9) M := by
  intro l
  induction l with
  | nil => intro acc x5 _ hK; have := hK x5; rw [List.flatten_nil, List.append_nil] at this; exact this
  | cons g l ih =>
    intro acc x5 hc hK
    rw [List.flatten_cons, List.length_append] at hc
    show dSet 4 _ w _ (ρN hs gs c x3 (some (.val (.lst (acc.map .int)))) (some (.val (.lst (g.map .int)))) x6 x7 x8 x9) M
    have e1 : Ev (dOp fAdd (dVar 4) (dL (dG1 fListC (dVar 5)))) w (ρN hs gs c x3 (some (.val (.lst (acc.map .int)))) (some (.val (.lst (g.map .int)))) x6 x7 x8 x9) M (.lst ((acc ++ g).map .int)) := by
      rw [List.map_append]
      exact ev_op (ev_var rfl) (ev_listLW (ev_var (i := 5) (d := .lst (g.map .int)) rfl)) (o2_cat (by rw [List.length_map, List.length_map]; omega))
    refine set_ev e1 ?_
    refine ih (acc ++ g) _ (by rw [List.length_append]; omega) fun x5 => ?_
    have := hK x5
    rw [List.flatten_cons, ← List.append_assoc] at this
    exact this
end
theorem shn__law_needed (C : Cl) (n : Nat) : Shows (spn__law_needed C (n + 1)) 13 (rd__law_needed C n) := by
  intro ds M q e hh
  obtain ⟨a, d, k, rfl, hs, G, gs, c, rfl, oh, o, nn, rfl, r, hn, rfl, kw, hq⟩ := ar3_of hh
  clear hh
  have og := subG_g o.g r.sub
  have h12 : gs.flatten.length ≤ 12 := Nat.le_trans (rch_len r) o.tot
  have emx : ∀ (w : PWi), Ev (dCall (sp__law_mixed C) [] (dCons (dVar 1) dNil)) w (ρN hs gs c none none none none none none none) M (.bl (mixed gs)) := fun w => ev_call (eva_cons (ev_var rfl) eva_nil) fun q e hq => ⟨gs, rfl, og, hq⟩
  by_cases cm : mixed gs = true
  case neg =>
    have cm : mixed gs = false := by simpa using cm
    rw [cm] at emx
    refine sqIfTR (evt_not (evt (emx _))) ev_c ?_
    have e0 : needI hs 13 gs = 0 := by
      show (if mixed gs = true then _ else (0 : Int)) = 0
      rw [cm]; rfl
    have := hq M (Oth.refl _ _) kw
    rw [e0] at this
    exact ⟨M, MLe.refl _, this⟩
  rw [cm] at emx
  refine sqIfFN (evt_not (evt (emx _))) ?_
  obtain ⟨n, rfl⟩ : ∃ n', n = n' + 1 := ⟨n - 1, by
    obtain ⟨x, hx⟩ := mixed_some cm
    have := List.length_pos_of_mem hx
    omega⟩
  have hsw := shw_groups og
  have o1r : Op1 fRepr (gsL gs) (.str (nmG gs)) := fun k hk => ⟨hsw.ok50, hsw.show (by decide), hk⟩
  have ea : ∀ w, EvA (dCons (dB1 fRepr (dVar 1)) (dCons (dL (dLst dNil)) dNil)) w (ρN hs gs c none none none none none none none) M [.str (nmG gs), .lst []] := fun w => eva_cons (ev_b1 (ev_var rfl) o1r) (eva_cons (ev_lst eva_nil (by decide)) eva_nil)
  refine sqPar (ea _) ?_
  refine sqStep ?_
  show dFor (iA (dVar 1)) (gNm 5) _ _ _ (ρN hs gs c (some (.val (.str (nmG gs)))) (some (.val (.lst (([] : List Int).map .int)))) none none none none none) M
  refine forEAs (d := gsL gs) (l := gs.map fun g => D.lst (g.map .int)) (ev_var rfl) (.inl rfl) ?_
  refine ne_flat gs [] none (by show 0 + gs.flatten.length ≤ 1000; omega) fun x5 => ?_
  rw [List.nil_append]
  dsimp only
  obtain ⟨L, hM, nd, ok⟩ := kw
  have fin : ∀ (w : PWi) (P : PEnds) (x5 x6 x7 x8 x9 : Option Sv) (M' : Mm) (L' : List (List (List Int))), M' c = some (.dik (L'.map (knW hs))) → (∀ g ∈ L', RchG hs G g) → gs ∈ L' → P.rt (.int (needI hs 13 gs)) M' → dRet (dGetDk (dVar 2) (dVar 3)) w P (ρN hs gs c (some (.val (.str (nmG gs)))) (nsV gs) x5 x6 x7 x8 x9) M' := fun w P x5 x6 x7 x8 x9 M' L' h1 h1' h2 h3 => by
    have e2 : Ev (dVar 2) w (ρN hs gs c (some (.val (.str (nmG gs)))) (nsV gs) x5 x6 x7 x8 x9) M' (.raw (.ref c)) := ev_var rfl
    have e3 : Ev (dVar 3) w (ρN hs gs c (some (.val (.str (nmG gs)))) (nsV gs) x5 x6 x7 x8 x9) M' (.str (nmG gs)) := ev_var rfl
    unfold dRet dGetDk
    refine e2 _ ?_
    refine e3 _ ?_
    refine asDk_at h1 ?_
    refine ⟨.inr (nmG gs), _, rfl, ?_, h3⟩
    rw [get_kw nn r h1', if_pos h2]
  have ein : ∀ (w : PWi), EvT (dTst (dInDk true (dVar 3) (dVar 2))) w (ρN hs gs c (some (.val (.str (nmG gs)))) (nsV gs) x5 none none none none) M (!decide (gs ∈ L)) := fun w q hq => by
    have e2 : Ev (dVar 2) w (ρN hs gs c (some (.val (.str (nmG gs)))) (nsV gs) x5 none none none none) M (.raw (.ref c)) := ev_var rfl
    have e3 : Ev (dVar 3) w (ρN hs gs c (some (.val (.str (nmG gs)))) (nsV gs) x5 none none none none) M (.str (nmG gs)) := ev_var rfl
    unfold dTst dInDk
    refine e3 _ ?_
    refine e2 _ ?_
    refine asDk_at hM ?_
    refine ⟨.inr (nmG gs), rfl, ?_⟩
    rw [get_kw nn r ok]
    by_cases z : gs ∈ L
    · rw [decide_eq_true z] at hq
      rw [if_pos z]; exact hq
    · rw [decide_eq_false z] at hq
      rw [if_neg z]; exact hq
  by_cases ci : gs ∈ L
  · rw [decide_eq_true ci] at ein
    refine sqIfFN (ein _) ?_
    exact fin _ _ _ _ _ _ _ _ _ hM ok ci ⟨M, MLe.refl _, hq M (Oth.refl _ _) ⟨L, hM, nd, ok⟩⟩
  · rw [decide_eq_false ci] at ein
    refine sqIfT (ein _) ?_
    refine sqStep ?_
    refine ⟨by show 1 ≤ 1000000; decide, ?_⟩
    dsimp only
    refine sqStep ?_
    show dFor (iA (dVar 0)) (gNm 7) (neBody C (n + 1)) _ _ (ρN hs gs c (some (.val (.str (nmG gs)))) (nsV gs) x5 (some (.own (([99] : List Int).map .int))) none none none) M
    refine forEAs (l := hs.map .int) (ev_var rfl) (.inl rfl) ?_
    refine ne_loop (C := C) (n := n) (M0 := M) oh o nn r hn hs [99] M none none none (fun h z => z) (by have := oh.2.1; simp; omega) ⟨L, hM, nd, ok⟩ (Oth.refl _ _) fun x7 x8 x9 M2 hk2 ho2 => ?_
    obtain ⟨L2, hM2, nd2, ok2⟩ := hk2
    have emin : needI hs 13 gs = minL 99 ((hs.filter fun h => manyV gs h).map (neOne hs gs)) := by
      rw [need_stab oh.2.2 (n := 13) (m := 14) (by omega) (by omega)]
      show (if mixed gs = true then _ else (0 : Int)) = _
      rw [if_pos cm]; rfl
    have l2 := KW.len oh o.tot nd2 ok2
    dsimp only
    have eown : ∀ w, Ev (dB1 fMin (dOwn 6)) w (ρN hs gs c (some (.val (.str (nmG gs)))) (nsV gs) x5 (some (.own ((([99] : List Int) ++ (hs.filter fun h => manyV gs h).map (neOne hs gs)).map .int))) x7 x8 x9) M2 (.int (needI hs 13 gs)) := fun w => ev_b1 (ev_own rfl) fun k hk => by
      show fMin (.lst ((99 :: (hs.filter fun h => manyV gs h).map (neOne hs gs)).map .int)) k
      refine fMin_ints ?_
      rw [← emin]; exact hk
    have e2 : ∀ w, Ev (dVar 2) w (ρN hs gs c (some (.val (.str (nmG gs)))) (nsV gs) x5 (some (.own ((([99] : List Int) ++ (hs.filter fun h => manyV gs h).map (neOne hs gs)).map .int))) x7 x8 x9) M2 (.raw (.ref c)) := fun w => ev_var rfl
    have e3 : ∀ w, Ev (dVar 3) w (ρN hs gs c (some (.val (.str (nmG gs)))) (nsV gs) x5 (some (.own ((([99] : List Int) ++ (hs.filter fun h => manyV gs h).map (neOne hs gs)).map .int))) x7 x8 x9) M2 (.str (nmG gs)) := fun w => ev_var rfl
    unfold dPutDk putAt
    refine (eown _) _ ?_
    refine (e2 _) _ ?_
    refine (e3 _) _ ?_
    refine asDk_at hM2 ?_
    refine ⟨.inr (nmG gs), rfl, by rw [List.length_map]; omega, ?_⟩
    have hkw : KW hs G c (updM M2 c (.dik (putDK (L2.map (knW hs)) (.inr (nmG gs)) (.int (needI hs 13 gs))))) := KW.put nn r nd2 ok2
    have hu : updM M2 c (.dik (putDK (L2.map (knW hs)) (.inr (nmG gs)) (.int (needI hs 13 gs)))) c = some (.dik ((if gs ∈ L2 then L2 else L2 ++ [gs]).map (knW hs))) := by rw [updM_same, put_kw nn r ok2]
    have hin : ∀ g ∈ (if gs ∈ L2 then L2 else L2 ++ [gs]), RchG hs G g := fun g hg => by
      split at hg
      · exact ok2 g hg
      · rcases List.mem_append.mp hg with z | z
        · exact ok2 g z
        · rw [List.mem_singleton.mp z]; exact r
    dsimp only
    refine fin _ _ _ _ _ _ _ _ _ hu hin (by split; assumption; exact List.mem_append_right _ (List.mem_singleton.mpr rfl)) ?_
    refine ⟨_, MLe.refl _, hq _ (fun b mo hb e => ?_) hkw⟩
    unfold updM
    rw [if_neg hb]
    exact ho2 b mo hb e
end Px
set_option Elab.async false
set_option linter.all false
set_option maxRecDepth 100000
namespace Px
open PySem PySem.Spec PyProof.Rows L2
def isT : Nat → List Int → List (List Int) → D → Bool
  | 0, _, gs, d => mixed gs && isN d
  | m + 1, hs, gs, d => mixed gs && match d with
    | .tup l => decide (l.length = hs.length) && (hs.zip l).all fun p => match p.2 with
      | .tup [.int v, t] => isT m hs (kp gs p.1 (eqV (.int v))) t
      | _ => false
    | _ => false
def prT (m : Nat) (hs : List Int) (gs : List (List Int)) (p : Int × D) : Bool := match p.2 with
  | .tup [.int v, t] => isT m hs (kp gs p.1 (eqV (.int v))) t
  | _ => false
theorem isT_succ (m : Nat) (hs : List Int) (gs : List (List Int)) (l : List D) : isT (m + 1) hs gs (.tup l) = (mixed gs && (decide (l.length = hs.length) && (hs.zip l).all (prT m hs gs))) := rfl
theorem mixed_none {gs : List (List Int)} (h : ∀ g ∈ gs, g = []) : mixed gs = false := by
  unfold mixed
  have : gs.filter (fun g => !g.isEmpty) = [] := List.filter_eq_nil_iff.mpr fun g hg => by rw [h g hg]; simp
  rw [this]; rfl
theorem isT_off {m : Nat} {hs : List Int} {gs : List (List Int)} {d : D} (h : mixed gs = false) : isT m hs gs d = false := by
  cases m with
  | zero => show (mixed gs && _) = false; rw [h]; rfl
  | succ m => show (mixed gs && _) = false; rw [h]; rfl
theorem kp_off {gs : List (List Int)} {h v : Int} (hh : 1 ≤ h) (hv : ¬ (0 ≤ v ∧ v ≤ h)) : mixed (kp gs h (eqV (.int v))) = false := mixed_none fun g hg => by
  obtain ⟨g', _, rfl⟩ := List.mem_map.mp hg
  refine List.filter_eq_nil_iff.mpr fun n _ => ?_
  have := shI_rg (h := h) (n := n) (by omega)
  show ¬ (eqD (.int (shI h n)) (.int v) = true)
  rw [eqD_int, decide_eq_true_eq]
  omega
theorem plain_nr {d : D} (h : plain d = true) : noRaw d = true := by cases d <;> first | rfl | (cases h)
def isTupD : D → Bool
  | .tup _ => true
  | _ => false
theorem ev_isTup {w : PWi} {ρ : Rho} {M : Mm} {pa : PTE} {d : D} (ha : Ev pa w ρ M d) (h : plain d = true) : Ev (dB1 (fIsi "tuple") pa) w ρ M (.bl (isTupD d)) := ev_b1 ha fun k hk => by
  cases d <;> first | exact hk | (cases h)
theorem forZ {w : PWi} {P : PEnds} {ρ : Rho} {M : Mm} {pa pb : PTE} {gd : PTG} {p : PTS} {x y : D} {t u : Bool} {l m : List D} (h1 : Ev pa w ρ M x) (h2 : Ev pb w ρ M y) (e1 : sqOf x = some (t, l)) (e2 : sqOf y = some (u, m)) (k : forR gd p w ((l.zip m).map fun p => .tup [p.1, p.2]) P ρ M) : dFor (iZp pa pb) gd p w P ρ M :=
  h1 _ (h2 _ ⟨t, l, u, m, e1, e2, k⟩)
theorem zip_loop {a b c d : Sv} {B : PTS} {w : PWi} {P : PEnds} {M : Mm} {pr : Int × D → Bool} : ∀ (ps : List (Int × D)),
    (∀ p ∈ ps, ∀ F : Rho → Mm → Prop, (pr p = true → F [some a, some b, some c, some d, some (.val (.int p.1)), some (.val p.2)] M) → (pr p = false → P.rt (.bl false) M) →
      B w { P with nx := F, ct := F, bk := P.nx } [some a, some b, some c, some d, some (.val (.int p.1)), some (.val p.2)] M) →
    (ps.all pr = false → P.rt (.bl false) M) → (ps.all pr = true → ∀ y z, P.nx [some a, some b, some c, some d, y, z] M) →
    ∀ y z, forR (gTp 2 (gsCons (gNm 4) (gsCons (gNm 5) gsNil))) B w (ps.map fun p => .tup [.int p.1, p.2]) P [some a, some b, some c, some d, y, z] M
  | [], _, _, ht, y, z => ht rfl y z
  | p :: ps, hb, hf, ht, y, z => ⟨rfl, hb p List.mem_cons_self _ (fun e => zip_loop ps (fun p hp => hb p (List.mem_cons_of_mem _ hp)) (fun e2 => hf (by rw [List.all_cons, e, e2]; rfl)) (fun e2 => ht (by rw [List.all_cons, e, e2]; rfl)) _ _) fun e => hf (by rw [List.all_cons, e]; rfl)⟩
def spn_is_table (C : Cl) : Nat → PSp
  | 0 => spNever
  | n + 1 => fun ds M q _ => ar4 ds fun a d x t => asI x fun m => ∃ hs gs, a = .lst (hs.map .int) ∧ HsOk hs ∧ d = gsT gs ∧ GsG gs ∧ 0 ≤ m ∧ m ≤ n ∧ GdA t ∧ q (.bl (isT m.toNat hs gs t)) M
theorem ln_is_table (C : Cl) : ∀ n ds M q e, spn_is_table C n ds M q e → ds.length = 4
  | 0, _, _, _, _, h => h.elim
  | n + 1, ds, M, q, e, h => by obtain ⟨_, _, _, _, rfl, _⟩ := ar4_of h; rfl
def rd_is_table (C : Cl) (n : Nat) : PTS := (dSeq (dIfS (dNot (dTst (dCall (sp_is_mixed C) [] (dCons (dVar 1) dNil)))) (dRet (dC (.bl false))) dNext)
    (dSeq (dIfS (dTst (dOp fEq (dVar 2) (dC (.int 0)))) (dRet (dOp fIs (dVar 3) (dC .non))) dNext)
    (dSeq (dIfS (dOr (dNot (dTst (dB1 (fIsi "tuple") (dVar 3)))) (dTst (dOp fNe (dB1 fLen (dVar 3)) (dB1 fLen (dVar 0))))) (dRet (dC (.bl false))) dNext)
    (dSeq (dFor (iZp (dVar 0) (dVar 3)) (gTp 2 (gsCons (gNm 4) (gsCons (gNm 5) gsNil))) (dSeq (dIfS (dOr (dNot (dTst (dB1 (fIsi "tuple") (dVar 5)))) (dOr (dTst (dOp fNe (dB1 fLen (dVar 5)) (dC (.int 2)))) (dNot (dTst (dCall (sp_is_between C) [] (dCons (dOp fIx (dVar 5) (dC (.int 0))) (dCons (dC (.int 0)) (dCons (dVar 4) dNil)))))))) (dRet (dC (.bl false))) dNext)
    (dIfS (dNot (dTst (dCall (spn_is_table C n) [] (dCons (dVar 0) (dCons (dCall (sp_kept C) [] (dCons (dVar 1) (dCons (dVar 4) (dCons (dOp fIx (dVar 5) (dC (.int 0))) dNil)))) (dCons (dOp fSub (dVar 2) (dC (.int 1))) (dCons (dOp fIx (dVar 5) (dC (.int 1))) dNil))))))) (dRet (dC (.bl false))) dNext)))
    (dRet (dC (.bl true)))))))
theorem zip_rows (hs : List Int) (l : List D) : ((hs.map D.int).zip l).map (fun p => D.tup [p.1, p.2]) = (hs.zip l).map fun p => D.tup [.int p.1, p.2] := by
  rw [List.zip_map_left, List.map_map]; rfl
theorem shn_is_table (C : Cl) (n : Nat) : Shows (spn_is_table C (n + 1)) 6 (rd_is_table C n) := by
  intro ds M q e hh
  obtain ⟨a, d, x, t, rfl, hh⟩ := ar4_of hh
  obtain ⟨m, rfl, hs, gs, rfl, oh, rfl, o, m0, m1, hp, hq⟩ := asI_of hh
  clear hh
  have fin : ∀ (P : PEnds) (b : Bool), P.rt = (fun d M' => ∃ M2, MLe M2 M' ∧ q d M2) → b = isT m.toNat hs gs t → P.rt (.bl b) M := fun P b e1 e2 => by rw [e1, e2]; exact ⟨M, MLe.refl M, hq⟩
  have emx : ∀ (w : PWi), EvT (dNot (dTst (dCall (sp_is_mixed C) [] (dCons (dVar 1) dNil)))) w [some (.val (.lst (hs.map .int))), some (.val (gsT gs)), some (.val (.int m)), some (.val t), none, none] M (!mixed gs) := fun w => evt_not (evt (ev_call (eva_cons (ev_var rfl) eva_nil) fun q e hq => ⟨gs, rfl, o, hq⟩))
  cases hmx : mixed gs with
  | false =>
    rw [hmx] at emx
    exact sqIfTR (emx _) ev_c (fin _ false rfl (isT_off hmx).symm)
  | true =>
    rw [hmx] at emx
    refine sqIfFN (emx _) ?_
    have em : ∀ (w : PWi), EvT (dTst (dOp fEq (dVar 2) (dC (.int 0)))) w [some (.val (.lst (hs.map .int))), some (.val (gsT gs)), some (.val (.int m)), some (.val t), none, none] M (decide (m = 0)) := fun w => evt (ev_op (ev_var rfl) ev_c o2_eqI)
    by_cases cm : m = 0
    · subst cm
      refine sqIfTR (by have := em; exact this _) (ev_op (ev_var rfl) ev_c (o2_isN (plain_nr hp.plain))) (fin _ _ rfl ?_)
      show isN t = (mixed gs && isN t)
      rw [hmx]; rfl
    · rw [decide_eq_false cm] at em
      refine sqIfFN (em _) ?_
      obtain ⟨k, hk⟩ : ∃ k, m.toNat = k + 1 := ⟨m.toNat - 1, by omega⟩
      rw [hk] at fin
      have et : ∀ (w : PWi), Ev (dB1 (fIsi "tuple") (dVar 3)) w [some (.val (.lst (hs.map .int))), some (.val (gsT gs)), some (.val (.int m)), some (.val t), none, none] M (.bl (isTupD t)) := fun w => ev_isTup (ev_var rfl) hp.plain
      by_cases ct : ∃ l, t = .tup l
      · obtain ⟨l, rfl⟩ := ct
        have hel : ∀ (w : PWi), EvT (dTst (dOp fNe (dB1 fLen (dVar 3)) (dB1 fLen (dVar 0)))) w [some (.val (.lst (hs.map .int))), some (.val (gsT gs)), some (.val (.int m)), some (.val (.tup l)), none, none] M (!decide ((l.length : Int) = (hs.length : Int))) := fun w =>
          evt (ev_op (ev_b1 (g := fLen) (z := .int l.length) (ev_var rfl) fun k hk => hk) (ev_b1 (g := fLen) (z := .int hs.length) (ev_var rfl) fun k hk => by show k (.int (hs.map D.int).length); rw [List.length_map]; exact hk) o2_neI)
        by_cases cl : l.length = hs.length
        · rw [decide_eq_true (by omega)] at hel
          refine sqIfFN (evt_orF (evt_not (evt (et _))) (hel _)) ?_
          refine sqStep ?_
          refine forZ (ev_var rfl) (ev_var rfl) (x := .lst (hs.map .int)) (y := .tup l) rfl rfl ?_
          rw [zip_rows]
          have eT : isT (k + 1) hs gs (.tup l) = (hs.zip l).all (prT k hs gs) := by rw [isT_succ, hmx, decide_eq_true cl]; rfl
          rw [eT] at fin
          obtain ⟨n, rfl⟩ : ∃ n', n = n' + 1 := ⟨n - 1, by omega⟩
          have hk2 : (m - 1).toNat = k := by omega
          refine zip_loop (pr := prT k hs gs) (hs.zip l) (fun p hp2 F h1 h2 => ?_) (fun e => fin _ _ rfl e.symm) (fun e y z => ?_) _ _
          · obtain ⟨h, x⟩ := p
            obtain ⟨q1, q2⟩ := List.of_mem_zip hp2
            have rh := oh.2.2 h q1
            have gx := hp.tup.2 x q2
            dsimp only at h1 h2 ⊢
            have et2 : ∀ (w : PWi), Ev (dB1 (fIsi "tuple") (dVar 5)) w [some (.val (.lst (hs.map .int))), some (.val (gsT gs)), some (.val (.int m)), some (.val (.tup l)), some (.val (.int h)), some (.val x)] M (.bl (isTupD x)) := fun w => ev_isTup (ev_var rfl) gx.plain
            by_cases cx : ∃ a t, x = .tup [a, t]
            · obtain ⟨a, t, rfl⟩ := cx
              have ga := gx.tup.2 a List.mem_cons_self
              have gt2 := gx.tup.2 t (List.mem_cons_of_mem _ List.mem_cons_self)
              have ea : ∀ (w : PWi), Ev (dOp fIx (dVar 5) (dC (.int 0))) w [some (.val (.lst (hs.map .int))), some (.val (gsT gs)), some (.val (.int m)), some (.val (.tup l)), some (.val (.int h)), some (.val (.tup [a, t]))] M a := fun w => ev_op (ev_var rfl) ev_c (o2_ixT rfl)
              have eb : ∀ (w : PWi), Ev (dOp fIx (dVar 5) (dC (.int 1))) w [some (.val (.lst (hs.map .int))), some (.val (gsT gs)), some (.val (.int m)), some (.val (.tup l)), some (.val (.int h)), some (.val (.tup [a, t]))] M t := fun w => ev_op (ev_var rfl) ev_c (o2_ixT rfl)
              have en : ∀ (w : PWi), EvT (dTst (dOp fNe (dB1 fLen (dVar 5)) (dC (.int 2)))) w [some (.val (.lst (hs.map .int))), some (.val (gsT gs)), some (.val (.int m)), some (.val (.tup l)), some (.val (.int h)), some (.val (.tup [a, t]))] M false := fun w =>
                evt (ev_op (ev_b1 (g := fLen) (z := .int 2) (ev_var rfl) fun k hk => hk) ev_c (by have := o2_neI (i := 2) (j := 2); exact this))
              have ebt : ∀ (w : PWi), EvT (dNot (dTst (dCall (sp_is_between C) [] (dCons (dOp fIx (dVar 5) (dC (.int 0))) (dCons (dC (.int 0)) (dCons (dVar 4) dNil)))))) w [some (.val (.lst (hs.map .int))), some (.val (gsT gs)), some (.val (.int m)), some (.val (.tup l)), some (.val (.int h)), some (.val (.tup [a, t]))] M (!btwD a 0 h) := fun w =>
                evt_not (evt (ev_call (eva_cons (ea w) (eva_cons ev_c (eva_cons (ev_var rfl) eva_nil))) fun q e hq => ⟨ga.plain, hq⟩))
              cases cb : btwD a 0 h with
              | false =>
                rw [cb] at ebt
                refine sqIfTR (evt_or (evt_not (evt (et2 _))) (fun _ => evt_or (en _) (fun _ => ebt _) rfl) rfl) ev_c (h2 ?_)
                cases a with
                | int v =>
                  show isT k hs (kp gs h (eqV (.int v))) t = false
                  exact isT_off (kp_off rh.1 fun z => by
                    have : btwD (.int v) 0 h = true := by show (decide (0 ≤ v) && decide (v ≤ h)) = true; rw [decide_eq_true z.1, decide_eq_true z.2]; rfl
                    rw [cb] at this; cases this)
                | _ => rfl
              | true =>
                rw [cb] at ebt
                refine sqIfFN (evt_orF (evt_not (evt (et2 _))) (evt_orF (en _) (ebt _))) ?_
                obtain ⟨v, rfl⟩ : ∃ v, a = .int v := by cases a <;> first | exact ⟨_, rfl⟩ | (cases cb)
                have ec : ∀ (w : PWi), EvT (dNot (dTst (dCall (spn_is_table C (n + 1)) [] (dCons (dVar 0) (dCons (dCall (sp_kept C) [] (dCons (dVar 1) (dCons (dVar 4) (dCons (dOp fIx (dVar 5) (dC (.int 0))) dNil)))) (dCons (dOp fSub (dVar 2) (dC (.int 1))) (dCons (dOp fIx (dVar 5) (dC (.int 1))) dNil))))))) w [some (.val (.lst (hs.map .int))), some (.val (gsT gs)), some (.val (.int m)), some (.val (.tup l)), some (.val (.int h)), some (.val (.tup [.int v, t]))] M (!isT k hs (kp gs h (eqV (.int v))) t) := fun w =>
                  evt_not (evt (ev_call (eva_cons (ev_var rfl) (eva_cons (ev_call (eva_cons (ev_var rfl) (eva_cons (ev_var rfl) (eva_cons (ea w) eva_nil))) fun q e hq => ⟨gs, rfl, o, rh, rfl, hq⟩) (eva_cons (ev_op (ev_var rfl) ev_c o2_sub) (eva_cons (eb w) eva_nil)))) fun q e hq => ⟨hs, _, rfl, oh, rfl, o.kp _ _, by omega, by omega, gt2, by rw [hk2]; exact hq⟩))
                have ep : prT k hs gs (h, .tup [.int v, t]) = isT k hs (kp gs h (eqV (.int v))) t := rfl
                rw [ep] at h1 h2
                cases ci : isT k hs (kp gs h (eqV (.int v))) t with
                | false => rw [ci] at ec h2; exact ec _ _ (itT rfl (h2 rfl))
                | true => rw [ci] at ec h1; exact ec _ _ (itF rfl (h1 rfl))
            · have ep : prT k hs gs (h, x) = false := by
                unfold prT
                split
                · next v t e => exact absurd ⟨_, _, e⟩ cx
                · rfl
              have e1 : ∀ (w : PWi), EvT (dOr (dNot (dTst (dB1 (fIsi "tuple") (dVar 5)))) (dOr (dTst (dOp fNe (dB1 fLen (dVar 5)) (dC (.int 2)))) (dNot (dTst (dCall (sp_is_between C) [] (dCons (dOp fIx (dVar 5) (dC (.int 0))) (dCons (dC (.int 0)) (dCons (dVar 4) dNil)))))))) w [some (.val (.lst (hs.map .int))), some (.val (gsT gs)), some (.val (.int m)), some (.val (.tup l)), some (.val (.int h)), some (.val x)] M true := fun w => by
                by_cases cy : ∃ xs, x = .tup xs
                · obtain ⟨xs, rfl⟩ := cy
                  have ln : xs.length ≠ 2 := fun z => cx (by
                    match xs, z with
                    | [a, b], _ => exact ⟨a, b, rfl⟩)
                  refine evt_orF (evt_not (evt (et2 _))) (evt_orT (evt (ev_op (ev_b1 (g := fLen) (z := .int xs.length) (ev_var rfl) fun k hk => hk) ev_c ?_)))
                  have := o2_neI (i := (xs.length : Int)) (j := 2)
                  rw [decide_eq_false (by omega)] at this
                  exact this
                · have e2 : isTupD x = false := by
                    cases x with
                    | tup l => exact absurd ⟨l, rfl⟩ cy
                    | _ => rfl
                  rw [e2] at et2
                  exact evt_orT (evt_not (evt (et2 _)))
              exact sqIfTR (e1 _) ev_c (h2 ep)
          · dsimp only
            refine (ev_c (d := .bl true)) _ ?_
            exact ⟨M, MLe.refl M, by rw [hk, eT, e] at hq; exact hq⟩
        · rw [decide_eq_false (by omega)] at hel
          refine sqIfTR (evt_or (evt_not (evt (et _))) (fun _ => hel _) rfl) ev_c (fin _ false rfl ?_)
          rw [isT_succ, decide_eq_false cl]; simp
      · have e2 : isTupD t = false := by
          cases t with
          | tup l => exact absurd ⟨l, rfl⟩ ct
          | _ => rfl
        rw [e2] at et
        refine sqIfTR (evt_orT (evt_not (evt (et _)))) ev_c (fin _ false rfl ?_)
        cases t with
        | tup l => exact absurd ⟨l, rfl⟩ ct
        | _ => exact (Bool.and_false _).symm
end Px
set_option Elab.async false
set_option linter.all false
set_option maxRecDepth 100000
namespace Px
open PySem PySem.Spec PyProof.Rows L2
end Px
set_option Elab.async false
set_option linter.all false
set_option maxRecDepth 100000
namespace Px
open PySem PySem.Spec PyProof.Rows L2
def kpO (gs : List (List Int)) (h : Int) : Option Int → List (List Int)
  | some v => kpv gs h v
  | none => []
def tblN (hs : List Int) : Nat → List (List Int) → D
  | 0, _ => .non
  | m + 1, gs => .tup (hs.map fun h => .tup [optD (ovN hs m gs h), tblN hs m (kpO gs h (ovN hs m gs h))])
def foundT (hs : List Int) (m : Nat) (gs : List (List Int)) : D := if opn hs m gs = true then tblN hs m gs else .non
theorem ov_some {hs : List Int} {m : Nat} {gs : List (List Int)} {h : Int} (hh : h ∈ hs) (ho : opn hs (m + 1) gs = true) : ∃ v, ovN hs m gs h = some v ∧ v ∈ valsA gs h ∧ opn hs m (kpv gs h v) = true := by
  have ho : (mixed gs && hs.all fun h => (valsA gs h).any fun v => opn hs m (kpv gs h v)) = true := ho
  rw [Bool.and_eq_true] at ho
  have := List.all_eq_true.mp ho.2 h hh
  rw [← ov_any] at this
  obtain ⟨v, hv⟩ := Option.isSome_iff_exists.mp this
  exact ⟨v, hv, List.mem_of_find?_eq_some hv, List.find?_some (p := fun v => opn hs m (kpv gs h v)) hv⟩
theorem zip_mem62 {f : Int → D} : ∀ {hs : List Int} {p : Int × D}, p ∈ hs.zip (hs.map f) → p.1 ∈ hs ∧ p.2 = f p.1
  | [], p, h => by cases h
  | h :: hs, p, hp => by
    have hp : p ∈ (h, f h) :: hs.zip (hs.map f) := hp
    rcases List.mem_cons.mp hp with rfl | hp
    · exact ⟨List.mem_cons_self, rfl⟩
    · obtain ⟨a, b⟩ := zip_mem62 hp
      exact ⟨List.mem_cons_of_mem _ a, b⟩
theorem isT_tbl {hs : List Int} : ∀ (m : Nat) (gs : List (List Int)), opn hs m gs = true → isT m hs gs (tblN hs m gs) = true
  | 0, gs, h => by
    have h : mixed gs = true := h
    show (mixed gs && isN .non) = true
    rw [h]; rfl
  | m + 1, gs, h => by
    have hm := opn_mixed h
    show isT (m + 1) hs gs (.tup (hs.map fun h => .tup [optD (ovN hs m gs h), tblN hs m (kpO gs h (ovN hs m gs h))])) = true
    rw [isT_succ, hm, List.length_map, decide_eq_true rfl, Bool.true_and, Bool.true_and, List.all_eq_true]
    rintro ⟨k, x⟩ hx
    obtain ⟨hk, e⟩ := zip_mem62 hx
    dsimp only at hk e
    subst e
    obtain ⟨v, e1, _, e3⟩ := ov_some hk h
    show prT m hs gs (k, .tup [optD (ovN hs m gs k), tblN hs m (kpO gs k (ovN hs m gs k))]) = true
    rw [e1]
    show isT m hs (kp gs k (eqV (.int v))) (tblN hs m (kpv gs k v)) = true
    rw [eqV_eqN]
    exact isT_tbl m _ e3
theorem isT_found {hs : List Int} {m : Nat} {gs : List (List Int)} : isT m hs gs (foundT hs m gs) = opn hs m gs := by
  unfold foundT
  by_cases c : opn hs m gs = true
  · rw [if_pos c, c]; exact isT_tbl m gs c
  · rw [if_neg c]
    cases m with
    | zero => show (mixed gs && true) = mixed gs; rw [Bool.and_true]
    | succ m =>
      show (mixed gs && false) = opn hs (m + 1) gs
      rw [Bool.and_false]
      simpa using c
theorem found_isN {hs : List Int} {m : Nat} {gs : List (List Int)} : isN (foundT hs m gs) = !(decide (0 < m) && opn hs m gs) := by
  unfold foundT
  cases m with
  | zero => rw [decide_eq_false (by decide)]; split <;> rfl
  | succ m =>
    rw [decide_eq_true (by omega), Bool.true_and]
    cases c : opn hs (m + 1) gs with
    | true => rfl
    | false => rfl
theorem tbl_gd {hs : List Int} (oh : HsOk hs) : ∀ (m : Nat) (gs : List (List Int)), opn hs m gs = true → Gd 10 1000 (2 * m) (tblN hs m gs)
  | 0, gs, _ => by show Gd 10 1000 0 .non; simp only [Gd]
  | m + 1, gs, h => by
    show Gd 10 1000 (2 * m + 1 + 1) (.tup (hs.map fun h => .tup [optD (ovN hs m gs h), tblN hs m (kpO gs h (ovN hs m gs h))]))
    have l6 := oh.2.1
    refine (gd_con (by rw [List.length_map]; omega) fun x hx => ?_).1
    obtain ⟨k, hk, rfl⟩ := List.mem_map.mp hx
    obtain ⟨v, e1, e2, e3⟩ := ov_some hk h
    rw [e1]
    refine (gd_con (by show 2 ≤ 10; decide) fun y hy => ?_).1
    have hy : y = .int v ∨ y = tblN hs m (kpv gs k v) := by simpa [optD, kpO] using hy
    rcases hy with rfl | rfl
    · have r := oh.2.2 k hk
      have := valsA_rg r e2
      cases m <;> (simp only [Gd]; omega)
    · exact tbl_gd oh m _ e3
theorem found_gd {hs : List Int} (oh : HsOk hs) {m : Nat} {gs : List (List Int)} : GdA (foundT hs m gs) := by
  unfold foundT
  split
  · rename_i c
    exact ⟨10, 1000, 2 * m, tbl_gd oh m gs c, by decide⟩
  · exact ⟨10, 1000, 0, by simp only [Gd], by decide⟩
theorem Shw.intS {n : Nat} {i : Int} (h : 0 ≤ i ∧ i ≤ 1000) : Shw n 12 (.int i) := by
  have h1 := Shw.int (n := n) (i := i) ⟨by omega, by omega⟩
  refine ⟨h1.ok, h1.sh, h1.lv, ?_⟩
  have a2 : i.natAbs < 2 ^ 10 := by omega
  have := PySem.Flt.log2_lt_of (by decide) a2
  show PyData.weight (.int i) ≤ 12
  simp only [PyData.weight]
  split <;> omega
def wT (L : Nat) : Nat → Nat
  | 0 => 0
  | m + 1 => (wT L m + 15) * L
theorem tbl_shw {hs : List Int} (oh : HsOk hs) : ∀ (m : Nat) (gs : List (List Int)), opn hs m gs = true → Shw (2 * m) (wT hs.length m) (tblN hs m gs)
  | 0, gs, _ => .non
  | m + 1, gs, h => by
    show Shw (2 * m + 1 + 1) ((wT hs.length m + 15) * hs.length) (.tup (hs.map fun h => .tup [optD (ovN hs m gs h), tblN hs m (kpO gs h (ovN hs m gs h))]))
    have key : ShwL (2 * m + 1) ((wT hs.length m + 14 + 1) * (hs.map fun h => D.tup [optD (ovN hs m gs h), tblN hs m (kpO gs h (ovN hs m gs h))]).length) (hs.map fun h => .tup [optD (ovN hs m gs h), tblN hs m (kpO gs h (ovN hs m gs h))]) := .all fun x hx => by
      obtain ⟨k, hk, rfl⟩ := List.mem_map.mp hx
      obtain ⟨v, e1, e2, e3⟩ := ov_some hk h
      rw [e1]
      have r := oh.2.2 k hk
      have := valsA_rg r e2
      have a := ShwL.cons (Shw.intS (n := 2 * m) (i := v) ⟨this.1, by omega⟩) (ShwL.cons (tbl_shw oh m _ e3) ShwL.nil)
      have b := Shw.tup a
      exact ⟨b.ok, b.sh, b.lv, Nat.le_trans b.wt (by omega)⟩
    rw [List.length_map] at key
    exact Shw.tup key
theorem found_show {hs : List Int} (oh : HsOk hs) {m : Nat} {gs : List (List Int)} (h6 : m ≤ 6) (hw : wT hs.length m ≤ 200000) : okD 50 (foundT hs m gs) = true ∧ showOk (toPy (foundT hs m gs)) := by
  unfold foundT
  split
  · rename_i c
    have := tbl_shw oh m gs c
    exact ⟨this.ok50 (by omega), this.show hw⟩
  · have := Shw.non (n := 0)
    exact ⟨this.ok50 (by omega), this.show (by decide)⟩
end Px
set_option Elab.async false
set_option linter.all false
set_option maxRecDepth 100000
namespace Px
open PySem PySem.Spec PyProof.Rows L2
def rowN (hs : List Int) (m : Nat) (gs : List (List Int)) (h : Int) : D := .tup [optD (ovN hs m gs h), tblN hs m (kpO gs h (ovN hs m gs h))]
def spn_table_for (C : Cl) : Nat → PSp
  | 0 => spNever
  | n + 1 => fun ds M q _ => ar4 ds fun a d x k => asI x fun m => ∃ hs G gs c, a = .lst (hs.map .int) ∧ HsOk hs ∧ G12 G ∧ d = gsT gs ∧ gs ∈ subG G ∧ 0 ≤ m ∧ m ≤ n ∧ m ≤ 6 ∧ opn hs m.toNat gs = true ∧ k = .raw (.ref c) ∧ KS hs G c M ∧ ∀ M', Oth c M M' → KS hs G c M' → q (tblN hs m.toNat gs) M'
def sp_table_for (C : Cl) : PSp := spn_table_for C 7
theorem ln_table_for (C : Cl) : ∀ n ds M q e, spn_table_for C n ds M q e → ds.length = 4
  | 0, _, _, _, _, h => h.elim
  | n + 1, ds, M, q, e, h => by obtain ⟨_, _, _, _, rfl, _⟩ := ar4_of h; rfl
theorem app_tup62 {w : PWi} {P : PEnds} {ρ : Rho} {M : Mm} {i : Nat} {pa pb : PTE} {v : D} {l : List D} {R : D → Mm → Prop} (hg : gt ρ i = some (.own l)) (hl : l.length < 1000000) (ha : Ev pa w ρ M v) (hb : ∀ q : PQ, (∀ t M', R t M' → q t M') → pb w ρ M q)
    (k : ∀ t M', R t M' → P.nx (st ρ i (.own (l ++ [.tup [v, t]]))) M') : dApp i (dTup (dCons pa (dCons pb dNil))) w P ρ M := ⟨by unfold isOwn; rw [hg]; trivial, ha _ (hb _ fun t M' r => ⟨by show 2 ≤ 1000000; decide, by
  unfold appR
  rw [hg]
  exact ⟨hl, k t M' r⟩⟩)⟩
def rd_table_for (C : Cl) (n : Nat) : PTS := (dSeq (dIfS (dTst (dOp fEq (dVar 2) (dC (.int 0)))) (dRet (dC .non)) dNext)
    (dSeq (dSetO 4 (dLst dNil))
    (dSeq (dFor (iA (dVar 0)) (gNm 5) (dSeq (dSet 6 (dCall (sp_open_value C) [] (dCons (dVar 0) (dCons (dVar 1) (dCons (dVar 5) (dCons (dOp fSub (dVar 2) (dC (.int 1))) (dCons (dVar 3) dNil)))))))
    (dApp 4 (dTup (dCons (dVar 6) (dCons (dCall (spn_table_for C n) [] (dCons (dVar 0) (dCons (dCall (sp_kept C) [] (dCons (dVar 1) (dCons (dVar 5) (dCons (dVar 6) dNil)))) (dCons (dOp fSub (dVar 2) (dC (.int 1))) (dCons (dVar 3) dNil))))) dNil))))))
    (dRet (dB1 fTup (dOwn 4))))))
theorem shn_table_for (C : Cl) (n : Nat) : Shows (spn_table_for C (n + 1)) 7 (rd_table_for C n) := by
  intro ds M q e hh
  obtain ⟨a, d, x, k, rfl, hh⟩ := ar4_of hh
  obtain ⟨m, rfl, hs, G, gs, c, rfl, oh, o, rfl, hg, m0, m1, m6, hop, rfl, kn, hq⟩ := asI_of hh
  clear hh
  have og := subG_g o.g hg
  have em : ∀ (w : PWi), EvT (dTst (dOp fEq (dVar 2) (dC (.int 0)))) w [some (.val (.lst (hs.map .int))), some (.val (gsT gs)), some (.val (.int m)), some (.val (.raw (.ref c))), none, none, none] M (decide (m = 0)) := fun w => evt (ev_op (ev_var rfl) ev_c o2_eqI)
  by_cases cm : m = 0
  · subst cm
    refine sqIfTR (by have := em; exact this _) ev_c ?_
    exact ⟨M, MLe.refl _, hq M (Oth.refl _ _) kn⟩
  rw [decide_eq_false cm] at em
  refine sqIfFN (em _) ?_
  obtain ⟨n, rfl⟩ : ∃ n', n = n' + 1 := ⟨n - 1, by omega⟩
  obtain ⟨k, hk⟩ : ∃ k, m.toNat = k + 1 := ⟨m.toNat - 1, by omega⟩
  have hk2 : (m - 1).toNat = k := by omega
  rw [hk] at hop hq
  have l6 := oh.2.1
  have key : ∀ (B : PTS) (w : PWi) (P : PEnds), (∀ (h : Int) (F : Rho → Mm → Prop) (M1 : Mm) (acc : List D) (y6 : Option Sv), h ∈ hs → KS hs G c M1 → acc.length < 6 →
        (∀ M2 y6, Oth c M1 M2 → KS hs G c M2 → F [some (.val (.lst (hs.map .int))), some (.val (gsT gs)), some (.val (.int m)), some (.val (.raw (.ref c))), some (.own (acc ++ [rowN hs k gs h])), some (.val (.int h)), y6] M2) →
        B w { P with nx := F, ct := F, bk := P.nx } [some (.val (.lst (hs.map .int))), some (.val (gsT gs)), some (.val (.int m)), some (.val (.raw (.ref c))), some (.own acc), some (.val (.int h)), y6] M1) →
      (∀ y5 y6 M2, Oth c M M2 → KS hs G c M2 → P.nx [some (.val (.lst (hs.map .int))), some (.val (gsT gs)), some (.val (.int m)), some (.val (.raw (.ref c))), some (.own (hs.map (rowN hs k gs))), y5, y6] M2) →
      ∀ (r pre : List Int) (M1 : Mm) (y5 y6 : Option Sv), pre ++ r = hs → KS hs G c M1 → Oth c M M1 →
      forR (gNm 5) B w (r.map .int) P [some (.val (.lst (hs.map .int))), some (.val (gsT gs)), some (.val (.int m)), some (.val (.raw (.ref c))), some (.own (pre.map (rowN hs k gs))), y5, y6] M1 := by
    intro B w P hb hn r
    induction r with
    | nil =>
      intro pre M1 y5 y6 hp hk ho
      rw [List.append_nil] at hp
      have := hn y5 y6 M1 ho hk
      rw [← hp] at this ⊢
      exact this
    | cons h r ih =>
      intro pre M1 y5 y6 hp hk ho
      have hin : h ∈ hs := by rw [← hp]; simp
      have hpl : pre.length < 6 := by
        have : (pre ++ h :: r).length = hs.length := by rw [hp]
        rw [List.length_append, List.length_cons] at this; omega
      refine hb h _ M1 (pre.map (rowN hs k gs)) y6 hin hk (by rw [List.length_map]; exact hpl) fun M2 y6 ho2 hk2 => ?_
      have := ih (pre ++ [h]) M2 (some (.val (.int h))) y6 (by rw [List.append_assoc]; exact hp) hk2 (ho.trans ho2)
      rw [List.map_append] at this
      exact this
  refine ⟨by decide, ?_⟩
  refine key _ _ _ ?_ ?_ hs [] M none none rfl kn (Oth.refl _ _)
  · intro h F M1 acc y6 hin hk1 ha hF
    have rh := oh.2.2 h hin
    obtain ⟨v, e1, e2, e3⟩ := ov_some hin hop
    have ea : ∀ w, EvA (dCons (dVar 0) (dCons (dVar 1) (dCons (dVar 5) (dCons (dOp fSub (dVar 2) (dC (.int 1))) (dCons (dVar 3) dNil))))) w [some (.val (.lst (hs.map .int))), some (.val (gsT gs)), some (.val (.int m)), some (.val (.raw (.ref c))), some (.own acc), some (.val (.int h)), y6] M1 [.lst (hs.map .int), gsT gs, .int h, .int (m - 1), .raw (.ref c)] := fun w =>
      eva_cons (ev_var rfl) (eva_cons (ev_var rfl) (eva_cons (ev_var rfl) (eva_cons (ev_op (ev_var rfl) ev_c o2_sub) (eva_cons (ev_var rfl) eva_nil))))
    refine set_callR (R := fun u M2 => u = .int v ∧ Oth c M1 M2 ∧ KS hs G c M2) (ea _) (fun q e hq => ⟨hs, G, gs, c, rfl, oh, o, rfl, hg, rh, by omega, by omega, by omega, rfl, hk1, fun M2 h2 h3 => hq _ M2 ⟨by rw [hk2, e1]; rfl, h2, h3⟩⟩) fun u M2 ⟨hu, ho2, hk3⟩ => ?_
    subst hu
    have eb : ∀ w, EvA (dCons (dVar 0) (dCons (dCall (sp_kept C) [] (dCons (dVar 1) (dCons (dVar 5) (dCons (dVar 6) dNil)))) (dCons (dOp fSub (dVar 2) (dC (.int 1))) (dCons (dVar 3) dNil)))) w [some (.val (.lst (hs.map .int))), some (.val (gsT gs)), some (.val (.int m)), some (.val (.raw (.ref c))), some (.own acc), some (.val (.int h)), some (.val (.int v))] M2 [.lst (hs.map .int), gsT (kpv gs h v), .int (m - 1), .raw (.ref c)] := fun w =>
      eva_cons (ev_var rfl) (eva_cons (ev_call (eva_cons (ev_var rfl) (eva_cons (ev_var rfl) (eva_cons (ev_var rfl) eva_nil))) fun q e hq => ⟨gs, rfl, og, rh, rfl, by rw [eqV_eqN]; exact hq⟩) (eva_cons (ev_op (ev_var rfl) ev_c o2_sub) (eva_cons (ev_var rfl) eva_nil)))
    have e6 : ∀ w, Ev (dVar 6) w [some (.val (.lst (hs.map .int))), some (.val (gsT gs)), some (.val (.int m)), some (.val (.raw (.ref c))), some (.own acc), some (.val (.int h)), some (.val (.int v))] M2 (.int v) := fun w => ev_var rfl
    have l1 : acc.length < 1000000 := by omega
    have er : rowN hs k gs h = .tup [.int v, tblN hs k (kpv gs h v)] := by unfold rowN; rw [e1]; rfl
    have hF2 : ∀ M3, Oth c M2 M3 → KS hs G c M3 → F [some (.val (.lst (hs.map .int))), some (.val (gsT gs)), some (.val (.int m)), some (.val (.raw (.ref c))), some (.own (acc ++ [.tup [.int v, tblN hs k (kpv gs h v)]])), some (.val (.int h)), some (.val (.int v))] M3 := fun M3 h2 h3 => by
      have := hF M3 (some (.val (.int v))) (ho2.trans h2) h3
      rw [er] at this
      exact this
    show dApp 4 (dTup (dCons (dVar 6) (dCons (dCall (spn_table_for C (n + 1)) [] (dCons (dVar 0) (dCons (dCall (sp_kept C) [] (dCons (dVar 1) (dCons (dVar 5) (dCons (dVar 6) dNil)))) (dCons (dOp fSub (dVar 2) (dC (.int 1))) (dCons (dVar 3) dNil))))) dNil))) _ _ [some (.val (.lst (hs.map .int))), some (.val (gsT gs)), some (.val (.int m)), some (.val (.raw (.ref c))), some (.own acc), some (.val (.int h)), some (.val (.int v))] M2
    refine app_tup62 (l := acc) (R := fun t M3 => t = tblN hs k (kpv gs h v) ∧ Oth c M2 M3 ∧ KS hs G c M3) rfl l1 (e6 _) (fun q hq => ?_) fun t M3 ⟨h1, h2, h3⟩ => by subst h1; exact hF2 M3 h2 h3
    exact call_ev (R := fun t M3 => t = tblN hs k (kpv gs h v) ∧ Oth c M2 M3 ∧ KS hs G c M3) (eb _) (fun q e hq => ⟨hs, G, _, c, rfl, oh, o, rfl, subG_kp hg, by omega, by omega, by omega, by rw [hk2]; exact e3, rfl, hk3, fun M3 h2 h3 => hq _ M3 ⟨by rw [hk2], h2, h3⟩⟩) fun t M3 h => hq t M3 h
  · intro y5 y6 M2 h2 h3
    dsimp only
    refine retEA (ev_b1 (g := fTup) (z := .tup (hs.map (rowN hs k gs))) (ev_own rfl) fun k hk => hk) ?_
    exact ⟨M2, MLe.refl _, hq M2 h2 h3⟩
def sp_need_asked (C : Cl) : PSp := fun ds M q _ => ar1 ds fun a => asI a fun m => 0 ≤ m ∧ m ≤ 6 ∧ q .non M
def rd_need_asked (C : Cl) : PTS := (dIfS (dNot (dTst (dCall (sp_is_between C) [] (dCons (dVar 0) (dCons (dC (.int 0)) (dCons (dC (.int 6)) dNil)))))) (dRaise (.ref C.BadNumber)) dNext)
theorem sh_need_asked (C : Cl) : Shows (sp_need_asked C) 1 (rd_need_asked C) := by
  intro ds M q e hh
  obtain ⟨d, rfl, hh⟩ := ar1_of hh
  obtain ⟨m, rfl, m0, m1, hq⟩ := asI_of hh
  refine ⟨rfl, itF ?_ ⟨M, MLe.refl _, hq⟩⟩
  show (!(decide (0 ≤ m) && decide (m ≤ 6))) = false
  rw [decide_eq_true m0, decide_eq_true m1]; rfl
theorem if_callE62 {sp : PSp} {pl : PTA} {w : PWi} {P : PEnds} {ρ : Rho} {M : Mm} {ds : List D} {pa pb : PTE} {R : Bool → Mm → Prop} (ea : EvA pl w ρ M ds) (hs : ∀ q e, (∀ b M', R b M' → q (.bl b) M') → sp (ds ++ []) M q e)
    (ht : ∀ M', R true M' → pa w ρ M' P.rt) (hf : ∀ M', R false M' → pb w ρ M' P.rt) : dRet (dIf (dTst (dCall sp [] pl)) pa pb) w P ρ M := ea _ (hs _ _ fun b M' r => by
  cases b
  · exact hf M' r
  · exact ht M' r)
def sp_open_table (C : Cl) : PSp := fun ds M q _ => ar3 ds fun a d x => asI x fun m => ∃ hs gs, isSeq a hs ∧ HsOk hs ∧ isGs d gs ∧ GsOk gs ∧ 0 ≤ m ∧ m ≤ 6 ∧ ∀ M', MLe M M' → q (foundT hs m.toNat gs) M'
def rd_open_table (C : Cl) : PTS := (dSeq (dDrop (dCall (sp_need_halves C) [] (dCons (dVar 0) dNil)))
    (dSeq (dDrop (dCall (sp_need_groups C) [] (dCons (dVar 1) dNil)))
    (dSeq (dDrop (dCall (sp_need_asked C) [] (dCons (dVar 2) dNil)))
    (dSeq (dPar 3 4 (dCons dNewN (dCons (dCall (sp_copiedS C) [] (dCons (dVar 1) dNil)) dNil)))
    (dRet (dIf (dTst (dCall (sp_is_open_for C) [] (dCons (dL (dG1 fListC (dVar 0))) (dCons (dVar 4) (dCons (dVar 2) (dCons (dVar 3) dNil)))))) (dCall (sp_table_for C) [] (dCons (dL (dG1 fListC (dVar 0))) (dCons (dVar 4) (dCons (dVar 2) (dCons (dVar 3) dNil))))) (dC .non)))))))
theorem sh_open_table (C : Cl) : Shows (sp_open_table C) 5 (rd_open_table C) := by
  intro ds M q e hh
  obtain ⟨a, d, x, rfl, hh⟩ := ar3_of hh
  obtain ⟨m, rfl, hs, gs, ha, oh, hg, o, m0, m6, hq⟩ := asI_of hh
  clear hh
  refine ⟨hs, ha, oh, ?_⟩
  refine ⟨gs, hg, o, ?_⟩
  refine ⟨m0, m6, ?_⟩
  dsimp only
  show ∀ c, M c = none → _
  intro c hc
  refine ⟨gs, hg, o.g, ?_⟩
  have hu : updM M c (.dct []) c = some (.dct []) := updM_same
  have hle : MLe M (updM M c (.dct [])) := updM_le hc
  generalize updM M c (.dct []) = M1 at hu hle ⊢
  have ks : KS hs gs c M1 := ⟨[], hu, List.nodup_nil, fun x hx => by cases hx⟩
  have fin : ∀ (t : D) (M' : Mm), t = foundT hs m.toNat gs → Oth c M1 M' → ∃ M2, MLe M2 M' ∧ q t M2 := fun t M' h1 h2 => ⟨M', MLe.refl _, by
    rw [h1]
    exact hq M' fun b mo e => h2 b mo (fun z => by rw [z, hc] at e; cases e) (hle b mo e)⟩
  have elist : ∀ (w : PWi) (M : Mm), Ev (dL (dG1 fListC (dVar 0))) w [some (.val a), some (.val d), some (.val (.int m)), some (.val (.raw (.ref c))), some (.val (gsT gs))] M (.lst (hs.map .int)) := fun w M q hq => by
    rcases ha with rfl | rfl <;> exact hq
  have ea : ∀ (w : PWi) (M' : Mm), EvA (dCons (dL (dG1 fListC (dVar 0))) (dCons (dVar 4) (dCons (dVar 2) (dCons (dVar 3) dNil)))) w [some (.val a), some (.val d), some (.val (.int m)), some (.val (.raw (.ref c))), some (.val (gsT gs))] M' [.lst (hs.map .int), gsT gs, .int m, .raw (.ref c)] := fun w M' =>
    eva_cons (elist w M') (eva_cons (ev_var rfl) (eva_cons (ev_var rfl) (eva_cons (ev_var rfl) eva_nil)))
  dsimp only [dNil, ls2]
  show dRet (dIf (dTst (dCall (sp_is_open_for C) [] (dCons (dL (dG1 fListC (dVar 0))) (dCons (dVar 4) (dCons (dVar 2) (dCons (dVar 3) dNil)))))) (dCall (sp_table_for C) [] (dCons (dL (dG1 fListC (dVar 0))) (dCons (dVar 4) (dCons (dVar 2) (dCons (dVar 3) dNil))))) (dC .non)) _ _ [some (.val a), some (.val d), some (.val (.int m)), some (.val (.raw (.ref c))), some (.val (gsT gs))] M1
  refine if_callE62 (R := fun b M2 => b = opn hs m.toNat gs ∧ Oth c M1 M2 ∧ KS hs gs c M2) (ea _ _) (fun q e hq => ⟨hs, gs, gs, c, rfl, oh, o.g12, rfl, subG_self gs, m0, m6, m6, rfl, ks, fun M2 h1 h2 => hq _ M2 ⟨rfl, h1, h2⟩⟩) (fun M2 ⟨hb, h1, h2⟩ => ?_) (fun M2 ⟨hb, h1, h2⟩ => ?_)
  · exact call_ev (R := fun t M3 => t = tblN hs m.toNat gs ∧ Oth c M2 M3) (ea _ _) (fun q e hq => ⟨hs, gs, gs, c, rfl, oh, o.g12, rfl, subG_self gs, m0, m6, m6, hb.symm, rfl, h2, fun M3 h3 h4 => hq _ M3 ⟨rfl, h3⟩⟩) fun t M3 ⟨h3, h4⟩ => fin t M3 (by rw [h3]; unfold foundT; rw [if_pos hb.symm]) (h1.trans h4)
  · exact fin .non M2 (by unfold foundT; rw [← hb, if_neg (by simp)]) h1
def sp7_is_table (C : Cl) : PSp := spn_is_table C 7
def sp_is_open (C : Cl) : PSp := fun ds M q _ => ar4 ds fun a d x t => asI x fun m => ∃ hs gs, isSeq a hs ∧ HsOk hs ∧ isGs d gs ∧ GsOk gs ∧ 0 ≤ m ∧ m ≤ 6 ∧ GdA t ∧ q (.bl (isT m.toNat hs gs t)) M
def rd_is_open (C : Cl) : PTS := (dSeq (dDrop (dCall (sp_need_halves C) [] (dCons (dVar 0) dNil)))
    (dSeq (dDrop (dCall (sp_need_groups C) [] (dCons (dVar 1) dNil)))
    (dSeq (dDrop (dCall (sp_need_asked C) [] (dCons (dVar 2) dNil)))
    (dRet (dCall (sp7_is_table C) [] (dCons (dL (dG1 fListC (dVar 0))) (dCons (dCall (sp_copiedS C) [] (dCons (dVar 1) dNil)) (dCons (dVar 2) (dCons (dVar 3) dNil)))))))))
theorem sh_is_open (C : Cl) : Shows (sp_is_open C) 4 (rd_is_open C) := by
  intro ds M q e hh
  obtain ⟨a, d, x, t, rfl, hh⟩ := ar4_of hh
  obtain ⟨m, rfl, hs, gs, ha, oh, hg, o, m0, m1, ht, hq⟩ := asI_of hh
  refine ⟨hs, ha, oh, ?_⟩
  refine ⟨gs, hg, o, m0, m1, ?_⟩
  have key : ∀ (w : PWi), Ev (dL (dG1 fListC (dVar 0))) w [some (.val a), some (.val d), some (.val (.int m)), some (.val t)] M (.lst (hs.map .int)) := fun w q hq => by
    rcases ha with rfl | rfl <;> exact hq
  dsimp only
  refine retEA (ev_call (eva_cons (key _) (eva_cons (ev_call (eva_cons (ev_var rfl) eva_nil) fun q e hq => ⟨gs, hg, o.g, hq⟩) (eva_cons (ev_var rfl) (eva_cons (ev_var rfl) eva_nil)))) fun q e hq => ⟨hs, gs, rfl, oh, rfl, o.g, m0, m1, ht, hq⟩) ?_
  exact ⟨M, MLe.refl _, hq⟩
end Px
set_option Elab.async false
set_option linter.all false
set_option maxRecDepth 100000
namespace Px
open PySem PySem.Spec PyProof.Rows L2
def spnW__law_is_table (C : Cl) : Nat → PSp
  | 0 => spNever
  | n + 1 => fun ds M q _ => ar4 ds fun a d x t => asI x fun m => ∃ hs gs, a = .lst (hs.map .int) ∧ HsOk hs ∧ d = gsL gs ∧ GsG gs ∧ 0 ≤ m ∧ m ≤ n ∧ opn hs m.toNat gs = true ∧ t = tblN hs m.toNat gs ∧ q (.bl true) M
def spW__law_is_table (C : Cl) : PSp := spnW__law_is_table C 7
theorem lnW__law_is_table (C : Cl) : ∀ n ds M q e, spnW__law_is_table C n ds M q e → ds.length = 4
  | 0, _, _, _, _, h => h.elim
  | n + 1, ds, M, q, e, h => by obtain ⟨_, _, _, _, rfl, _⟩ := ar4_of h; rfl
def rdW__law_is_table (C : Cl) (n : Nat) : PTS := (dSeq (dIfS (dNot (dTst (dCall (sp__law_mixed C) [] (dCons (dVar 1) dNil)))) (dRet (dC (.bl false))) dNext)
    (dSeq (dIfS (dTst (dOp fEq (dVar 2) (dC (.int 0)))) (dRet (dOp fIs (dVar 3) (dC .non))) dNext)
    (dSeq (dIfS (dOr (dNot (dTst (dB1 (fIsi "tuple") (dVar 3)))) (dTst (dOp fNe (dB1 fLen (dVar 3)) (dB1 fLen (dVar 0))))) (dRet (dC (.bl false))) dNext)
    (dSeq (dFor (iZp (dVar 0) (dVar 3)) (gTp 2 (gsCons (gNm 4) (gsCons (gNm 5) gsNil))) (dSeq (dIfS (dOr (dNot (dTst (dB1 (fIsi "tuple") (dVar 5)))) (dTst (dOp fNe (dB1 fLen (dVar 5)) (dC (.int 2))))) (dRet (dC (.bl false))) dNext)
    (dIfS (dNot (dTst (dCall (spnW__law_is_table C n) [] (dCons (dVar 0) (dCons (dCall (sp__law_left C) [] (dCons (dVar 1) (dCons (dVar 4) (dCons (dOp fIx (dVar 5) (dC (.int 0))) dNil)))) (dCons (dOp fSub (dVar 2) (dC (.int 1))) (dCons (dOp fIx (dVar 5) (dC (.int 1))) dNil))))))) (dRet (dC (.bl false))) dNext)))
    (dRet (dC (.bl true)))))))
theorem shnW__law_is_table (C : Cl) (n : Nat) : Shows (spnW__law_is_table C (n + 1)) 6 (rdW__law_is_table C n) := by
  intro ds M q e hh
  obtain ⟨a, d, x, t, rfl, hh⟩ := ar4_of hh
  obtain ⟨m, rfl, hs, gs, rfl, oh, rfl, o, m0, m1, hop, rfl, hq⟩ := asI_of hh
  clear hh
  have hmx := opn_mixed hop
  have emx : ∀ (w : PWi) (t : D), EvT (dNot (dTst (dCall (sp__law_mixed C) [] (dCons (dVar 1) dNil)))) w [some (.val (.lst (hs.map .int))), some (.val (gsL gs)), some (.val (.int m)), some (.val t), none, none] M (!mixed gs) := fun w t => evt_not (evt (ev_call (eva_cons (ev_var rfl) eva_nil) fun q e hq => ⟨gs, rfl, o, hq⟩))
  rw [hmx] at emx
  have em : ∀ (w : PWi) (t : D), EvT (dTst (dOp fEq (dVar 2) (dC (.int 0)))) w [some (.val (.lst (hs.map .int))), some (.val (gsL gs)), some (.val (.int m)), some (.val t), none, none] M (decide (m = 0)) := fun w t => evt (ev_op (ev_var rfl) ev_c o2_eqI)
  refine sqIfFN (emx _ _) ?_
  by_cases cm : m = 0
  · subst cm
    refine sqIfTR (by have := em; exact this _ _) (ev_op (ev_var rfl) ev_c (o2_isN (d := tblN hs (0 : Int).toNat gs) rfl)) ?_
    exact ⟨M, MLe.refl _, hq⟩
  rw [decide_eq_false cm] at em
  refine sqIfFN (em _ _) ?_
  obtain ⟨k, hk⟩ : ∃ k, m.toNat = k + 1 := ⟨m.toNat - 1, by omega⟩
  obtain ⟨n, rfl⟩ : ∃ n', n = n' + 1 := ⟨n - 1, by omega⟩
  have hk2 : (m - 1).toNat = k := by omega
  have eT : tblN hs m.toNat gs = .tup (hs.map (rowN hs k gs)) := by rw [hk]; rfl
  rw [eT]
  rw [hk] at hop
  have et : ∀ (w : PWi), Ev (dB1 (fIsi "tuple") (dVar 3)) w [some (.val (.lst (hs.map .int))), some (.val (gsL gs)), some (.val (.int m)), some (.val (.tup (hs.map (rowN hs k gs)))), none, none] M (.bl true) := fun w => ev_isTup (d := .tup (hs.map (rowN hs k gs))) (ev_var rfl) rfl
  have hel : ∀ (w : PWi), EvT (dTst (dOp fNe (dB1 fLen (dVar 3)) (dB1 fLen (dVar 0)))) w [some (.val (.lst (hs.map .int))), some (.val (gsL gs)), some (.val (.int m)), some (.val (.tup (hs.map (rowN hs k gs)))), none, none] M (!decide ((hs.length : Int) = (hs.length : Int))) := fun w =>
    evt (ev_op (ev_b1 (g := fLen) (z := .int hs.length) (ev_var (i := 3) (d := .tup (hs.map (rowN hs k gs))) rfl) fun k' hk => by show k' (.int (hs.map (rowN hs k gs)).length); rw [List.length_map]; exact hk) (ev_b1 (g := fLen) (z := .int hs.length) (ev_var (i := 0) (d := .lst (hs.map .int)) rfl) fun k hk => by show k (.int (hs.map D.int).length); rw [List.length_map]; exact hk) o2_neI)
  rw [decide_eq_true rfl] at hel
  refine sqIfFN (evt_orF (evt_not (evt (et _))) (hel _)) ?_
  refine sqStep ?_
  refine forZ (ev_var rfl) (ev_var rfl) (x := .lst (hs.map .int)) (y := .tup (hs.map (rowN hs k gs))) rfl rfl ?_
  rw [zip_rows]
  have all1 : ∀ l : List (Int × D), l.all (fun _ => true) = true := fun l => List.all_eq_true.mpr fun _ _ => rfl
  refine zip_loop (pr := fun _ => true) (hs.zip (hs.map (rowN hs k gs))) (fun p hp2 F h1 h2 => ?_) (fun e => by rw [all1] at e; cases e) (fun e y z => ?_) _ _
  · obtain ⟨h, x⟩ := p
    obtain ⟨q1, e1⟩ := zip_mem62 hp2
    dsimp only at q1 e1 h1 ⊢
    have rh := oh.2.2 h q1
    obtain ⟨v, v1, v2, v3⟩ := ov_some q1 hop
    have ex : x = .tup [.int v, tblN hs k (kpv gs h v)] := by rw [e1]; unfold rowN; rw [v1]; rfl
    subst ex
    have et2 : ∀ (w : PWi), Ev (dB1 (fIsi "tuple") (dVar 5)) w [some (.val (.lst (hs.map .int))), some (.val (gsL gs)), some (.val (.int m)), some (.val (.tup (hs.map (rowN hs k gs)))), some (.val (.int h)), some (.val (.tup [.int v, tblN hs k (kpv gs h v)]))] M (.bl true) := fun w => ev_isTup (d := .tup [.int v, tblN hs k (kpv gs h v)]) (ev_var rfl) rfl
    have ea : ∀ (w : PWi), Ev (dOp fIx (dVar 5) (dC (.int 0))) w [some (.val (.lst (hs.map .int))), some (.val (gsL gs)), some (.val (.int m)), some (.val (.tup (hs.map (rowN hs k gs)))), some (.val (.int h)), some (.val (.tup [.int v, tblN hs k (kpv gs h v)]))] M (.int v) := fun w => ev_op (ev_var rfl) ev_c (o2_ixT rfl)
    have eb : ∀ (w : PWi), Ev (dOp fIx (dVar 5) (dC (.int 1))) w [some (.val (.lst (hs.map .int))), some (.val (gsL gs)), some (.val (.int m)), some (.val (.tup (hs.map (rowN hs k gs)))), some (.val (.int h)), some (.val (.tup [.int v, tblN hs k (kpv gs h v)]))] M (tblN hs k (kpv gs h v)) := fun w => ev_op (ev_var rfl) ev_c (o2_ixT rfl)
    have en : ∀ (w : PWi), EvT (dTst (dOp fNe (dB1 fLen (dVar 5)) (dC (.int 2)))) w [some (.val (.lst (hs.map .int))), some (.val (gsL gs)), some (.val (.int m)), some (.val (.tup (hs.map (rowN hs k gs)))), some (.val (.int h)), some (.val (.tup [.int v, tblN hs k (kpv gs h v)]))] M false := fun w =>
      evt (ev_op (ev_b1 (g := fLen) (z := .int 2) (ev_var rfl) fun k hk => hk) ev_c (by have := o2_neI (i := 2) (j := 2); exact this))
    refine sqIfFN (evt_orF (evt_not (evt (et2 _))) (en _)) ?_
    have ec : ∀ (w : PWi), EvT (dNot (dTst (dCall (spnW__law_is_table C (n + 1)) [] (dCons (dVar 0) (dCons (dCall (sp__law_left C) [] (dCons (dVar 1) (dCons (dVar 4) (dCons (dOp fIx (dVar 5) (dC (.int 0))) dNil)))) (dCons (dOp fSub (dVar 2) (dC (.int 1))) (dCons (dOp fIx (dVar 5) (dC (.int 1))) dNil))))))) w [some (.val (.lst (hs.map .int))), some (.val (gsL gs)), some (.val (.int m)), some (.val (.tup (hs.map (rowN hs k gs)))), some (.val (.int h)), some (.val (.tup [.int v, tblN hs k (kpv gs h v)]))] M (!true) := fun w =>
      evt_not (evt (ev_call (eva_cons (ev_var rfl) (eva_cons (ev_call (eva_cons (ev_var rfl) (eva_cons (ev_var rfl) (eva_cons (ea w) eva_nil))) fun q e hq => ⟨gs, rfl, o, rh, rfl, by rw [eqV_eqN]; exact hq⟩) (eva_cons (ev_op (ev_var rfl) ev_c o2_sub) (eva_cons (eb w) eva_nil)))) fun q e hq => ⟨hs, kpv gs h v, rfl, oh, rfl, o.kp _ _, by omega, by omega, by rw [hk2]; exact v3, by rw [hk2], hq⟩))
    exact ec _ _ (itF rfl (h1 rfl))
  · dsimp only
    refine (ev_c (d := .bl true)) _ ?_
    exact ⟨M, MLe.refl M, hq⟩
end Px
set_option Elab.async false
set_option linter.all false
set_option maxRecDepth 100000
namespace Px
open PySem PySem.Spec PyProof.Rows L2
def rd_l62_0 (C : Cl) : PTS := (dSet 3 (dL (dComp [9] (iR1 (dOp fAdd (dC (.int 1)) (dCall sp_take [] (dCons (dVar 1) (dCons (dC (.int 6)) dNil))))) (gNm 9) dYes (dOp fAdd (dC (.int 1)) (dCall sp_take [] (dCons (dVar 1) (dCons (dCall sp_pick [] (dCons (dVar 1) (dCons (dL (dLst (dCons (dC (.int 6)) (dCons (dC (.int 12)) (dCons (dC (.int 40)) dNil))))) dNil))) dNil)))))))
def rd_l62_1 (C : Cl) : PTS := (dSet 4 (dCall (sp__law_groups C) [] (dCons (dVar 1) (dCons (dCall sp_pick [] (dCons (dVar 1) (dCons (dL (dLst (dCons (dC (.int 10)) (dCons (dC (.int 30)) (dCons (dC (.int 200)) dNil))))) dNil))) dNil))))
def rd_l62_2 (C : Cl) : PTS := (dIfS (dTst (dOp fLt (dB1 fLen (dVar 4)) (dC (.int 2)))) dCnt dNext)
def rd_l62_3 (C : Cl) : PTS := (dSet 5 (dCall (sp__law_needed C) [] (dCons (dVar 3) (dCons (dVar 4) (dCons dNewDk dNil)))))
def rd_l62_4 (C : Cl) : PTS := (dSet 6 (dOp fMin2 (dVar 5) (dOp fIx (dL (dLst (dCons (dC (.int 6)) (dCons (dC (.int 6)) (dCons (dC (.int 6)) (dCons (dC (.int 5)) (dCons (dC (.int 3)) (dCons (dC (.int 3)) dNil)))))))) (dOp fSub (dB1 fLen (dVar 3)) (dC (.int 1))))))
def rd_m62_0 (C : Cl) : PTS := (dSet 8 (dCall (sp_open_table C) [] (dCons (dVar 3) (dCons (dVar 4) (dCons (dVar 7) dNil)))))
def rd_m62_1 (C : Cl) : PTS := (dIfS (dOr (dAnd (dTst (dOp fGt (dVar 7) (dC (.int 0)))) (dTst (dOp fNe (dOp fIsNot (dVar 8) (dC .non)) (dOp fGt (dVar 5) (dVar 7))))) (dAnd (dTst (dOp fEq (dVar 7) (dC (.int 0)))) (dTst (dOp fIsNot (dVar 8) (dC .non))))) (dRet (dC (.bl false))) dNext)
def rd_m62_2 (C : Cl) : PTS := (dIfS (dAnd (dTst (dOp fGt (dVar 5) (dVar 7))) (dNot (dTst (dCall (spW__law_is_table C) [] (dCons (dVar 3) (dCons (dVar 4) (dCons (dVar 7) (dCons (dVar 8) dNil)))))))) (dRet (dC (.bl false))) dNext)
def rd_m62_3 (C : Cl) : PTS := (dIfS (dTst (dOp fNeS (dB1 fRepr (dCall (sp_is_open C) [] (dCons (dVar 3) (dCons (dVar 4) (dCons (dVar 7) (dCons (dVar 8) dNil)))))) (dB1 fRepr (dOp fGt (dVar 5) (dVar 7))))) (dRet (dC (.bl false))) dNext)
def rd_m62_4 (C : Cl) : PTS := (dIfS (dTst (dOp fNeS (dB1 fRepr (dCallK (sp_open_table C) [2, 1, 0] (dCons (dVar 7) (dCons (dVar 4) (dCons (dB1 fTup (dVar 3)) dNil))))) (dB1 fRepr (dVar 8)))) (dRet (dC (.bl false))) dNext)
def rd_m62 (C : Cl) : PTS := dSeq (rd_m62_0 C) (dSeq (rd_m62_1 C) (dSeq (rd_m62_2 C) (dSeq (rd_m62_3 C) (rd_m62_4 C))))
def rd_l62_5 (C : Cl) : PTS := (dFor (iA (dL (dLst (dCons (dC (.int 0)) (dCons (dC (.int 1)) (dCons (dC (.int 2)) (dCons (dC (.int 3)) (dCons (dOp fMax2 (dC (.int 0)) (dOp fSub (dVar 6) (dC (.int 1)))) (dCons (dVar 6) (dCons (dCall sp_take [] (dCons (dVar 1) (dCons (dOp fAdd (dVar 6) (dC (.int 1))) dNil))) dNil)))))))))) (gNm 7) (rd_m62 C))
def rd_l62 (C : Cl) : PTS := dSeq (rd_l62_0 C) (dSeq (rd_l62_1 C) (dSeq (rd_l62_2 C) (dSeq (rd_l62_3 C) (dSeq (rd_l62_4 C) (rd_l62_5 C)))))
def rd_law (C : Cl) : PTS := (dSeq (dSet 1 (dCall sp_begin [] (dCons (dVar 0) dNil)))
    (dSeq (dFor (iR1 (dOp fAdd (dC (.int 3)) (dOp fMin2 (dB1 fLen (dVar 0)) (dC (.int 12))))) (gNm 2) (dSeq (dSet 3 (dL (dComp [9] (iR1 (dOp fAdd (dC (.int 1)) (dCall sp_take [] (dCons (dVar 1) (dCons (dC (.int 6)) dNil))))) (gNm 9) dYes (dOp fAdd (dC (.int 1)) (dCall sp_take [] (dCons (dVar 1) (dCons (dCall sp_pick [] (dCons (dVar 1) (dCons (dL (dLst (dCons (dC (.int 6)) (dCons (dC (.int 12)) (dCons (dC (.int 40)) dNil))))) dNil))) dNil)))))))
    (dSeq (dSet 4 (dCall (sp__law_groups C) [] (dCons (dVar 1) (dCons (dCall sp_pick [] (dCons (dVar 1) (dCons (dL (dLst (dCons (dC (.int 10)) (dCons (dC (.int 30)) (dCons (dC (.int 200)) dNil))))) dNil))) dNil))))
    (dSeq (dIfS (dTst (dOp fLt (dB1 fLen (dVar 4)) (dC (.int 2)))) dCnt dNext)
    (dSeq (dSet 5 (dCall (sp__law_needed C) [] (dCons (dVar 3) (dCons (dVar 4) (dCons dNewDk dNil)))))
    (dSeq (dSet 6 (dOp fMin2 (dVar 5) (dOp fIx (dL (dLst (dCons (dC (.int 6)) (dCons (dC (.int 6)) (dCons (dC (.int 6)) (dCons (dC (.int 5)) (dCons (dC (.int 3)) (dCons (dC (.int 3)) dNil)))))))) (dOp fSub (dB1 fLen (dVar 3)) (dC (.int 1))))))
    (dFor (iA (dL (dLst (dCons (dC (.int 0)) (dCons (dC (.int 1)) (dCons (dC (.int 2)) (dCons (dC (.int 3)) (dCons (dOp fMax2 (dC (.int 0)) (dOp fSub (dVar 6) (dC (.int 1)))) (dCons (dVar 6) (dCons (dCall sp_take [] (dCons (dVar 1) (dCons (dOp fAdd (dVar 6) (dC (.int 1))) dNil))) dNil)))))))))) (gNm 7) (dSeq (dSet 8 (dCall (sp_open_table C) [] (dCons (dVar 3) (dCons (dVar 4) (dCons (dVar 7) dNil)))))
    (dSeq (dIfS (dOr (dAnd (dTst (dOp fGt (dVar 7) (dC (.int 0)))) (dTst (dOp fNe (dOp fIsNot (dVar 8) (dC .non)) (dOp fGt (dVar 5) (dVar 7))))) (dAnd (dTst (dOp fEq (dVar 7) (dC (.int 0)))) (dTst (dOp fIsNot (dVar 8) (dC .non))))) (dRet (dC (.bl false))) dNext)
    (dSeq (dIfS (dAnd (dTst (dOp fGt (dVar 5) (dVar 7))) (dNot (dTst (dCall (spW__law_is_table C) [] (dCons (dVar 3) (dCons (dVar 4) (dCons (dVar 7) (dCons (dVar 8) dNil)))))))) (dRet (dC (.bl false))) dNext)
    (dSeq (dIfS (dTst (dOp fNeS (dB1 fRepr (dCall (sp_is_open C) [] (dCons (dVar 3) (dCons (dVar 4) (dCons (dVar 7) (dCons (dVar 8) dNil)))))) (dB1 fRepr (dOp fGt (dVar 5) (dVar 7))))) (dRet (dC (.bl false))) dNext)
    (dIfS (dTst (dOp fNeS (dB1 fRepr (dCallK (sp_open_table C) [2, 1, 0] (dCons (dVar 7) (dCons (dVar 4) (dCons (dB1 fTup (dVar 3)) dNil))))) (dB1 fRepr (dVar 8)))) (dRet (dC (.bl false))) dNext))))))))))))
    (dRet (dC (.bl true)))))
def capL : List Int := [6, 6, 6, 5, 3, 3]
def mostI (hs : List Int) (gs : List (List Int)) : Int := min (needI hs 13 gs) (capL.getD (hs.length - 1) 0)
structure NumOk (hs : List Int) (k : Int) : Prop where
  lo : 0 ≤ k
  hi : k ≤ 6
  wt : wT hs.length k.toNat ≤ 200000
theorem cap_le (n : Nat) : capL.getD n 0 ≤ 6 := by
  match n with
  | 0 | 1 | 2 | 3 | 4 | 5 => decide
  | n + 6 => show (0 : Int) ≤ 6; decide
theorem wT_all {L m : Nat} (h0 : 1 ≤ L) (h1 : L ≤ 6) (h2 : m ≤ 6) (h3 : m ≤ 3 ∨ (m : Int) ≤ capL.getD (L - 1) 0) : wT L m ≤ 200000 := by
  have key : ((List.range 7).all fun L => (List.range 7).all fun m => decide (L = 0) || (!(decide (m ≤ 3) || decide ((m : Int) ≤ capL.getD (L - 1) 0)) || decide (wT L m ≤ 200000))) = true := by decide +kernel
  have a := List.all_eq_true.mp (List.all_eq_true.mp key L (List.mem_range.mpr (by omega))) m (List.mem_range.mpr (by omega))
  simp only [Bool.or_eq_true, Bool.not_eq_true', Bool.or_eq_false_iff, decide_eq_true_eq, decide_eq_false_iff_not] at a
  rcases a with a | ⟨a, b⟩ | a
  · omega
  · rcases h3 with h | h
    · exact absurd h a
    · exact absurd h b
  · exact a
theorem num_ok {hs : List Int} {gs : List (List Int)} (oh : HsOk hs) {k : Int} (h0 : 0 ≤ k) (h1 : k ≤ 3 ∨ k ≤ mostI hs gs) : NumOk hs k := by
  have l0 : 1 ≤ hs.length := List.length_pos_iff.mpr oh.1
  have c6 := cap_le (hs.length - 1)
  have h2 : k ≤ 3 ∨ k ≤ capL.getD (hs.length - 1) 0 := by
    rcases h1 with h | h
    · exact .inl h
    · unfold mostI at h; exact .inr (by omega)
  have h6 : k ≤ 6 := by omega
  exact ⟨h0, h6, wT_all l0 oh.2.1 (by omega) (by rcases h2 with h | h; exact .inl (by omega); exact .inr (by omega))⟩
theorem gs_mixed62 {gs : List (List Int)} (o : GsOk gs) : mixed gs = true := by
  have e : (gs.filter fun g => !g.isEmpty) = gs := List.filter_eq_self.mpr fun g hg => by
    have := o.ne g hg
    cases g with
    | nil => exact absurd rfl this
    | cons x g => rfl
  unfold mixed
  rw [e]
  have := o.n2
  exact decide_eq_true (by omega)
theorem gs_nn62 {gs : List (List Int)} (o : GsOk gs) : NnG gs := fun g hg n hn => (o.rg g hg n hn).1
theorem due_opn {hs : List Int} {gs : List (List Int)} {k : Int} (oh : HsOk hs) (o : GsOk gs) (h0 : 0 ≤ k) (h1 : k ≤ 6) : decide (needI hs 13 gs > k) = opn hs k.toNat gs := by
  have := need_le oh.2.2 k.toNat 13 gs (by have := o.tot; omega) (by omega)
  rw [show ((k.toNat : Nat) : Int) = k by omega] at this
  cases c : opn hs k.toNat gs with
  | false => exact decide_eq_false (by have := this.mpr c; omega)
  | true =>
    refine decide_eq_true ?_
    have h2 : ¬ needI hs 13 gs ≤ k := fun z => by rw [this.mp z] at c; cases c
    omega
theorem neB62 {a b : Bool} : Op2 fNe (.bl a) (.bl b) (.bl (!decide (a = b))) := fun k hk => ⟨rfl, by
  have e : eqD (.bl a) (.bl b) = decide (a = b) := by cases a <;> cases b <;> rfl
  show k (.bl (!eqD (.bl a) (.bl b)))
  rw [e]; exact hk⟩
theorem evg_tk62 {w : PWi} {ρ : Rho} {M : Mm} {pa pb : PTE} {a : Addr} {G : D → Prop} (ha : Ev pa w ρ M (.raw (.ref a))) (hb : EvG pb w ρ M G) (hm : M a = some .draw) (hz : ∀ z, G z → ∃ k : Int, z = .int k ∧ 0 < k ∧ k ≤ 40) : EvG (dCall sp_take [] (dCons pa (dCons pb dNil))) w ρ M (fun z => ∃ k : Int, z = .int k ∧ 0 ≤ k ∧ k ≤ 39) := fun q hq =>
  ha _ (hb _ fun z h => by
    obtain ⟨k, rfl, k0, k1⟩ := hz z h
    exact ⟨hm, tk_of k0 (by omega), fun j j0 j1 => hq _ ⟨j, rfl, j0, by omega⟩⟩)
theorem if_fE {w : PWi} {P : PEnds} {ρ : Rho} {M : Mm} {t : PTT} {p q : PTS} (h : EvT t w ρ M false) (k : q w P ρ M) : dIfS t p q w P ρ M := h _ (itF rfl k)
def ρ62 (s0 : Option Sv) (a : Addr) (x2 x3 x4 x5 x6 x7 x8 : Option Sv) : Rho := [s0, some (.val (.raw (.ref a))), x2, x3, x4, x5, x6, x7, x8, none]
def hs62 (hs : List Int) : Option Sv := some (.val (.lst (hs.map .int)))
def gs62 (gs : List (List Int)) : Option Sv := some (.val (gsL gs))
def iV62 (n : Int) : Option Sv := some (.val (.int n))
section
variable {C : Cl} {w : PWi} {P : PEnds} {M : Mm} {a : Addr} {s0 x2 x3 x4 x5 x6 x7 x8 : Option Sv} {hs : List Int} {gs : List (List Int)} {k : Int}
theorem l62_0 (hm : M a = some .draw) (hN : ∀ hs, HsOk hs → P.nx (ρ62 s0 a x2 (hs62 hs) x4 x5 x6 x7 x8) M) : rd_l62_0 C w P (ρ62 s0 a x2 x3 x4 x5 x6 x7 x8) M := by
  have key : ∀ (l : List D) (acc : List Int) (K : List D → Mm → Prop), acc.length + l.length ≤ 6 → (∀ h ∈ acc, 1 ≤ h ∧ h ≤ 1000) → (∀ hs : List Int, hs.length = acc.length + l.length → (∀ h ∈ hs, 1 ≤ h ∧ h ≤ 1000) → K (hs.map .int) M) →
      compR (gNm 9) dYes (dOp fAdd (dC (.int 1)) (dCall sp_take [] (dCons (dVar 1) (dCons (dCall sp_pick [] (dCons (dVar 1) (dCons (dL (dLst (dCons (dC (.int 6)) (dCons (dC (.int 12)) (dCons (dC (.int 40)) dNil))))) dNil))) dNil)))) (ρ62 s0 a x2 x3 x4 x5 x6 x7 x8) l (acc.map .int) M K := by
    intro l
    induction l with
    | nil => intro acc K hl hr hK; exact hK acc (by simp) hr
    | cons d l ih =>
      intro acc K hl hr hK
      rw [List.length_cons] at hl hK
      have ep : EvG (dCall sp_pick [] (dCons (dVar 1) (dCons (dL (dLst (dCons (dC (.int 6)) (dCons (dC (.int 12)) (dCons (dC (.int 40)) dNil))))) dNil))) w0 (st (ρ62 s0 a x2 x3 x4 x5 x6 x7 x8) 9 (.val d)) M (fun z => z ∈ ([.int 6, .int 12, .int 40] : List D)) :=
        evg_pick (a := a) (ev_var rfl) (fun q hq => ⟨by show 3 ≤ 1000000; decide, hq⟩) hm ⟨by decide, by decide⟩
      have et : EvG (dOp fAdd (dC (.int 1)) (dCall sp_take [] (dCons (dVar 1) (dCons (dCall sp_pick [] (dCons (dVar 1) (dCons (dL (dLst (dCons (dC (.int 6)) (dCons (dC (.int 12)) (dCons (dC (.int 40)) dNil))))) dNil))) dNil)))) w0 (st (ρ62 s0 a x2 x3 x4 x5 x6 x7 x8) 9 (.val d)) M (fun z => ∃ k : Int, z = .int k ∧ 1 ≤ k ∧ k ≤ 1000) :=
        evg_opR (ev_c (d := .int 1)) (evg_tk62 (a := a) (ev_var rfl) ep hm fun z hz => by
          simp only [List.mem_cons, List.not_mem_nil, or_false] at hz
          rcases hz with rfl | rfl | rfl
          · exact ⟨6, rfl, by decide, by decide⟩
          · exact ⟨12, rfl, by decide, by decide⟩
          · exact ⟨40, rfl, by decide, by decide⟩) fun y ⟨k, e, k0, k1⟩ => ⟨.int (1 + k), by rw [e]; exact o2_add, _, rfl, by omega, by omega⟩
      refine comp_nm ?_
      refine et _ fun z ⟨k, e, k0, k1⟩ => ?_
      subst e
      refine ⟨by rw [List.length_map]; omega, ?_⟩
      have e2 : acc.map D.int ++ [.int k] = (acc ++ [k]).map .int := by rw [List.map_append]; rfl
      rw [e2]
      refine ih (acc ++ [k]) K (by rw [List.length_append, List.length_singleton]; omega) (fun u hu => ?_) fun hs h1 h2 => hK hs (by rw [h1, List.length_append, List.length_singleton]; omega) h2
      rcases List.mem_append.mp hu with z | z
      · exact hr u z
      · rw [List.mem_singleton.mp z]; exact ⟨k0, k1⟩
  refine ⟨rfl, ?_⟩
  refine ⟨hm, tk_of (by decide) (by decide), fun u u0 u1 => ⟨by omega, by omega, ?_⟩⟩
  have hlen : (rngD 0 (1 + u).toNat).length = (1 + u).toNat := rngD_len
  refine key _ [] _ (by rw [hlen]; simp; omega) (fun h z => (List.not_mem_nil z).elim) fun hs h1 h2 => ?_
  rw [hlen] at h1
  refine hN hs ⟨fun z => ?_, ?_, h2⟩
  · rw [z] at h1; simp at h1; omega
  · rw [h1]; simp; omega
theorem l62_1 (hm : M a = some .draw) (hN : ∀ gs, GsH gs → P.nx (ρ62 s0 a x2 x3 (gs62 gs) x5 x6 x7 x8) M) : rd_l62_1 C w P (ρ62 s0 a x2 x3 x4 x5 x6 x7 x8) M := by
  refine ⟨by show 3 ≤ 1000000; decide, hm, ⟨by decide, by decide⟩, fun z hz => ?_⟩
  have hz : z ∈ ([.int 10, .int 30, .int 200] : List D) := hz
  simp only [List.mem_cons, List.not_mem_nil, or_false] at hz
  rcases hz with rfl | rfl | rfl <;> exact ⟨hm, by decide, by decide, fun gs h => hN gs h⟩
theorem l62_2 (hC : P.ct (ρ62 s0 a x2 x3 (gs62 gs) x5 x6 x7 x8) M) (hN : 2 ≤ gs.length → P.nx (ρ62 s0 a x2 x3 (gs62 gs) x5 x6 x7 x8) M) : rd_l62_2 C w P (ρ62 s0 a x2 x3 (gs62 gs) x5 x6 x7 x8) M := by
  have e1 : EvT (dTst (dOp fLt (dB1 fLen (dVar 4)) (dC (.int 2)))) w (ρ62 s0 a x2 x3 (gs62 gs) x5 x6 x7 x8) M (decide ((gs.length : Int) < 2)) :=
    evt (ev_op (ev_b1 (g := fLen) (z := .int gs.length) (ev_var (i := 4) (d := gsL gs) rfl) fun k hk => by show k (.int (gs.map fun g => D.lst (g.map .int)).length); rw [List.length_map]; exact hk) (ev_c (d := .int 2)) (o2_cmp (p := fun i j => decide (i < j))))
  unfold rd_l62_2
  refine if_ev e1 (fun _ => hC) fun z => hN ?_
  have := of_decide_eq_false z
  omega
theorem l62_3 (oh : HsOk hs) (o : GsOk gs) (hN : ∀ M', MLe M M' → P.nx (ρ62 s0 a x2 (hs62 hs) (gs62 gs) (iV62 (needI hs 13 gs)) x6 x7 x8) M') : rd_l62_3 C w P (ρ62 s0 a x2 (hs62 hs) (gs62 gs) x5 x6 x7 x8) M := by
  have e4 : Ev (dVar 3) w (ρ62 s0 a x2 (hs62 hs) (gs62 gs) x5 x6 x7 x8) M (.lst (hs.map .int)) := ev_var rfl
  have e5 : Ev (dVar 4) w (ρ62 s0 a x2 (hs62 hs) (gs62 gs) x5 x6 x7 x8) M (gsL gs) := ev_var rfl
  unfold rd_l62_3 dSet dCall
  refine e4 _ ?_
  refine e5 _ ?_
  show ∀ c, M c = none → _
  intro c hc
  have hle : MLe M (updM M c (.dik [])) := updM_le hc
  exact ⟨hs, gs, gs, c, rfl, oh, o.g12, gs_nn62 o, rfl, RchG_self (gs_mixed62 o), (show gs.flatten.length ≤ 13 by have := o.tot; omega), rfl, ⟨[], updM_same, List.nodup_nil, fun g z => (List.not_mem_nil z).elim⟩, fun M2 h2 _ => hN M2 fun b mo e => h2 b mo (fun z => by rw [z, hc] at e; cases e) (hle b mo e)⟩
theorem cap_at (oh : HsOk hs) : atI (capL.map D.int) ((hs.length : Int) - 1) = some (D.int (capL.getD (hs.length - 1) 0)) := by
  have l0 : 1 ≤ hs.length := List.length_pos_iff.mpr oh.1
  have l6 := oh.2.1
  generalize hs.length = L at l0 l6
  obtain ⟨j, rfl⟩ : ∃ j, L = j + 1 := ⟨L - 1, by omega⟩
  rw [show (((j + 1 : Nat) : Int) - 1) = (j : Int) by omega, show j + 1 - 1 = j by omega]
  match j, l6 with
  | 0, _ | 1, _ | 2, _ | 3, _ | 4, _ | 5, _ => rfl
  | j + 6, h => omega
theorem l62_4 (oh : HsOk hs) (hN : P.nx (ρ62 s0 a x2 (hs62 hs) (gs62 gs) (iV62 (needI hs 13 gs)) (iV62 (mostI hs gs)) x7 x8) M) : rd_l62_4 C w P (ρ62 s0 a x2 (hs62 hs) (gs62 gs) (iV62 (needI hs 13 gs)) x6 x7 x8) M := by
  have e3 : Ev (dOp fSub (dB1 fLen (dVar 3)) (dC (.int 1))) w (ρ62 s0 a x2 (hs62 hs) (gs62 gs) (iV62 (needI hs 13 gs)) x6 x7 x8) M (.int ((hs.length : Int) - 1)) :=
    ev_op (ev_b1 (g := fLen) (z := .int hs.length) (ev_var (i := 3) (d := .lst (hs.map .int)) rfl) fun k hk => by show k (.int (hs.map D.int).length); rw [List.length_map]; exact hk) (ev_c (d := .int 1)) o2_sub
  have el : Ev (dL (dLst (dCons (dC (.int 6)) (dCons (dC (.int 6)) (dCons (dC (.int 6)) (dCons (dC (.int 5)) (dCons (dC (.int 3)) (dCons (dC (.int 3)) dNil)))))))) w (ρ62 s0 a x2 (hs62 hs) (gs62 gs) (iV62 (needI hs 13 gs)) x6 x7 x8) M (.lst (capL.map .int)) := fun q hq => ⟨by show 6 ≤ 1000000; decide, hq⟩
  have ex : Ev (dOp fIx (dL (dLst (dCons (dC (.int 6)) (dCons (dC (.int 6)) (dCons (dC (.int 6)) (dCons (dC (.int 5)) (dCons (dC (.int 3)) (dCons (dC (.int 3)) dNil)))))))) (dOp fSub (dB1 fLen (dVar 3)) (dC (.int 1)))) w (ρ62 s0 a x2 (hs62 hs) (gs62 gs) (iV62 (needI hs 13 gs)) x6 x7 x8) M (.int (capL.getD (hs.length - 1) 0)) :=
    ev_op el e3 (o2_ixL (cap_at oh))
  have e5 : Ev (dVar 5) w (ρ62 s0 a x2 (hs62 hs) (gs62 gs) (iV62 (needI hs 13 gs)) x6 x7 x8) M (.int (needI hs 13 gs)) := ev_var rfl
  exact set_ev (d := .int (mostI hs gs)) (ev_op e5 ex o2_min) hN
theorem ig62 (gs : List (List Int)) : isGs (gsL gs) gs := ⟨_, .inl rfl, isGrps_lst gs⟩
theorem m62_0 (oh : HsOk hs) (o : GsOk gs) (nk : NumOk hs k) (hN : ∀ M', MLe M M' → P.nx (ρ62 s0 a x2 (hs62 hs) (gs62 gs) x5 x6 (iV62 k) (some (.val (foundT hs k.toNat gs)))) M') : rd_m62_0 C w P (ρ62 s0 a x2 (hs62 hs) (gs62 gs) x5 x6 (iV62 k) x8) M := by
  have ea : EvA (dCons (dVar 3) (dCons (dVar 4) (dCons (dVar 7) dNil))) w (ρ62 s0 a x2 (hs62 hs) (gs62 gs) x5 x6 (iV62 k) x8) M [.lst (hs.map .int), gsL gs, .int k] := eva_cons (ev_var rfl) (eva_cons (ev_var rfl) (eva_cons (ev_var rfl) eva_nil))
  have k1 : ∀ K : PQ, (∀ M1, MLe M M1 → K (foundT hs k.toNat gs) M1) → dCall (sp_open_table C) [] (dCons (dVar 3) (dCons (dVar 4) (dCons (dVar 7) dNil))) w (ρ62 s0 a x2 (hs62 hs) (gs62 gs) x5 x6 (iV62 k) x8) M K := fun K hK =>
    ea _ ⟨hs, gs, .inl rfl, oh, ig62 gs, o, nk.lo, nk.hi, fun M1 h1 => hK M1 h1⟩
  unfold rd_m62_0 dSet
  exact k1 _ fun M1 h1 => hN M1 h1
theorem found_nr : noRaw (foundT hs k.toNat gs) = true := by
  unfold foundT
  split
  · cases k.toNat <;> rfl
  · rfl
theorem m62_1 (oh : HsOk hs) (o : GsOk gs) (nk : NumOk hs k) (hN : P.nx (ρ62 s0 a x2 (hs62 hs) (gs62 gs) (iV62 (needI hs 13 gs)) x6 (iV62 k) (some (.val (foundT hs k.toNat gs)))) M) : rd_m62_1 C w P (ρ62 s0 a x2 (hs62 hs) (gs62 gs) (iV62 (needI hs 13 gs)) x6 (iV62 k) (some (.val (foundT hs k.toNat gs)))) M := by
  have e5 : Ev (dVar 5) w (ρ62 s0 a x2 (hs62 hs) (gs62 gs) (iV62 (needI hs 13 gs)) x6 (iV62 k) (some (.val (foundT hs k.toNat gs)))) M (.int (needI hs 13 gs)) := ev_var rfl
  have e7 : Ev (dVar 7) w (ρ62 s0 a x2 (hs62 hs) (gs62 gs) (iV62 (needI hs 13 gs)) x6 (iV62 k) (some (.val (foundT hs k.toNat gs)))) M (.int k) := ev_var rfl
  have e8 : Ev (dVar 8) w (ρ62 s0 a x2 (hs62 hs) (gs62 gs) (iV62 (needI hs 13 gs)) x6 (iV62 k) (some (.val (foundT hs k.toNat gs)))) M (foundT hs k.toNat gs) := ev_var rfl
  have t0 := evt (ev_op (f := fGt) e7 (ev_c (d := .int 0)) (o2_cmp (p := fun i j => decide (i > j))))
  have n8 : Ev (dOp fIsNot (dVar 8) (dC .non)) w (ρ62 s0 a x2 (hs62 hs) (gs62 gs) (iV62 (needI hs 13 gs)) x6 (iV62 k) (some (.val (foundT hs k.toNat gs)))) M (.bl (!isN (foundT hs k.toNat gs))) := ev_op e8 ev_c (o2_isnN found_nr)
  have gt5 := ev_op (f := fGt) e5 e7 (o2_cmp (p := fun i j => decide (i > j)))
  have tz := evt (ev_op (f := fEq) e7 (ev_c (d := .int 0)) o2_eqI)
  rw [due_opn oh o nk.lo nk.hi] at gt5
  unfold rd_m62_1
  rw [found_isN] at n8
  have hlo := nk.lo
  by_cases c : k = 0
  · rw [decide_eq_false (by omega)] at t0
    have z : decide (0 < k.toNat) = false := decide_eq_false (by omega)
    rw [z] at n8
    exact if_fE (evt_orF (evt_andF t0) (evt_and tz (fun _ => evt n8) (by simp))) hN
  · rw [decide_eq_true (by omega)] at t0
    rw [decide_eq_false c] at tz
    have z : decide (0 < k.toNat) = true := decide_eq_true (by omega)
    rw [z, Bool.true_and, Bool.not_not] at n8
    have tn := evt (ev_op (f := fNe) n8 gt5 neB62)
    rw [decide_eq_true rfl] at tn
    exact if_fE (evt_orF (evt_andT t0 tn) (evt_andF tz)) hN
theorem m62_2 (oh : HsOk hs) (o : GsOk gs) (nk : NumOk hs k) (hN : P.nx (ρ62 s0 a x2 (hs62 hs) (gs62 gs) (iV62 (needI hs 13 gs)) x6 (iV62 k) (some (.val (foundT hs k.toNat gs)))) M) : rd_m62_2 C w P (ρ62 s0 a x2 (hs62 hs) (gs62 gs) (iV62 (needI hs 13 gs)) x6 (iV62 k) (some (.val (foundT hs k.toNat gs)))) M := by
  have e5 : Ev (dVar 5) w (ρ62 s0 a x2 (hs62 hs) (gs62 gs) (iV62 (needI hs 13 gs)) x6 (iV62 k) (some (.val (foundT hs k.toNat gs)))) M (.int (needI hs 13 gs)) := ev_var rfl
  have e7 : Ev (dVar 7) w (ρ62 s0 a x2 (hs62 hs) (gs62 gs) (iV62 (needI hs 13 gs)) x6 (iV62 k) (some (.val (foundT hs k.toNat gs)))) M (.int k) := ev_var rfl
  have gt5 := ev_op (f := fGt) e5 e7 (o2_cmp (p := fun i j => decide (i > j)))
  rw [due_opn oh o nk.lo nk.hi] at gt5
  unfold rd_m62_2
  cases c : opn hs k.toNat gs with
  | false =>
    rw [c] at gt5
    exact if_fE (evt_andF (evt gt5)) hN
  | true =>
    rw [c] at gt5
    have ei : Ev (dCall (spW__law_is_table C) [] (dCons (dVar 3) (dCons (dVar 4) (dCons (dVar 7) (dCons (dVar 8) dNil))))) w (ρ62 s0 a x2 (hs62 hs) (gs62 gs) (iV62 (needI hs 13 gs)) x6 (iV62 k) (some (.val (foundT hs k.toNat gs)))) M (.bl true) :=
      ev_call (eva_cons (ev_var (i := 3) (d := .lst (hs.map .int)) rfl) (eva_cons (ev_var (i := 4) (d := gsL gs) rfl) (eva_cons e7 (eva_cons (ev_var (i := 8) (d := foundT hs k.toNat gs) rfl) eva_nil)))) fun q e hq => ⟨hs, gs, rfl, oh, rfl, o.g, nk.lo, nk.hi, c, by unfold foundT; rw [if_pos c], hq⟩
    exact if_fE (evt_andT (evt gt5) (evt_not (evt ei))) hN
theorem m62_3 (oh : HsOk hs) (o : GsOk gs) (nk : NumOk hs k) (hN : P.nx (ρ62 s0 a x2 (hs62 hs) (gs62 gs) (iV62 (needI hs 13 gs)) x6 (iV62 k) (some (.val (foundT hs k.toNat gs)))) M) : rd_m62_3 C w P (ρ62 s0 a x2 (hs62 hs) (gs62 gs) (iV62 (needI hs 13 gs)) x6 (iV62 k) (some (.val (foundT hs k.toNat gs)))) M := by
  have e5 : Ev (dVar 5) w (ρ62 s0 a x2 (hs62 hs) (gs62 gs) (iV62 (needI hs 13 gs)) x6 (iV62 k) (some (.val (foundT hs k.toNat gs)))) M (.int (needI hs 13 gs)) := ev_var rfl
  have e7 : Ev (dVar 7) w (ρ62 s0 a x2 (hs62 hs) (gs62 gs) (iV62 (needI hs 13 gs)) x6 (iV62 k) (some (.val (foundT hs k.toNat gs)))) M (.int k) := ev_var rfl
  have gt5 := ev_op (f := fGt) e5 e7 (o2_cmp (p := fun i j => decide (i > j)))
  rw [due_opn oh o nk.lo nk.hi] at gt5
  have ei : Ev (dCall (sp_is_open C) [] (dCons (dVar 3) (dCons (dVar 4) (dCons (dVar 7) (dCons (dVar 8) dNil))))) w (ρ62 s0 a x2 (hs62 hs) (gs62 gs) (iV62 (needI hs 13 gs)) x6 (iV62 k) (some (.val (foundT hs k.toNat gs)))) M (.bl (opn hs k.toNat gs)) :=
    ev_call (eva_cons (ev_var (i := 3) (d := .lst (hs.map .int)) rfl) (eva_cons (ev_var (i := 4) (d := gsL gs) rfl) (eva_cons e7 (eva_cons (ev_var (i := 8) (d := foundT hs k.toNat gs) rfl) eva_nil)))) fun q e hq => ⟨hs, gs, .inl rfl, oh, ig62 gs, o, nk.lo, nk.hi, found_gd oh, by rw [isT_found]; exact hq⟩
  have hw := Shw.bl (n := 0) (b := opn hs k.toNat gs)
  have o1r : Op1 fRepr (.bl (opn hs k.toNat gs)) (.str (toPy (.bl (opn hs k.toNat gs))).shown) := fun k hk => ⟨hw.ok50, hw.show (by decide), hk⟩
  unfold rd_m62_3
  exact if_fE (evt (ev_op (f := fNeS) (ev_b1 ei o1r) (ev_b1 gt5 o1r) o2_neSS)) hN
theorem m62_4 (oh : HsOk hs) (o : GsOk gs) (nk : NumOk hs k) (hN : ∀ M', MLe M M' → P.nx (ρ62 s0 a x2 (hs62 hs) (gs62 gs) x5 x6 (iV62 k) (some (.val (foundT hs k.toNat gs)))) M') : rd_m62_4 C w P (ρ62 s0 a x2 (hs62 hs) (gs62 gs) x5 x6 (iV62 k) (some (.val (foundT hs k.toNat gs)))) M := by
  have e3 : Ev (dB1 fTup (dVar 3)) w (ρ62 s0 a x2 (hs62 hs) (gs62 gs) x5 x6 (iV62 k) (some (.val (foundT hs k.toNat gs)))) M (.tup (hs.map .int)) := ev_b1 (ev_var (i := 3) (d := .lst (hs.map .int)) rfl) o1_tupL
  have ea : EvA (dCons (dVar 7) (dCons (dVar 4) (dCons (dB1 fTup (dVar 3)) dNil))) w (ρ62 s0 a x2 (hs62 hs) (gs62 gs) x5 x6 (iV62 k) (some (.val (foundT hs k.toNat gs)))) M [.int k, gsL gs, .tup (hs.map .int)] := eva_cons (ev_var rfl) (eva_cons (ev_var rfl) (eva_cons e3 eva_nil))
  have k1 : ∀ K : PQ, (∀ M1, MLe M M1 → K (foundT hs k.toNat gs) M1) → dCallK (sp_open_table C) [2, 1, 0] (dCons (dVar 7) (dCons (dVar 4) (dCons (dB1 fTup (dVar 3)) dNil))) w (ρ62 s0 a x2 (hs62 hs) (gs62 gs) x5 x6 (iV62 k) (some (.val (foundT hs k.toNat gs)))) M K := fun K hK =>
    ea _ ⟨hs, gs, .inr rfl, oh, ig62 gs, o, nk.lo, nk.hi, fun M1 h1 => hK M1 h1⟩
  have k8 : ∀ M, Ev (dVar 8) w (ρ62 s0 a x2 (hs62 hs) (gs62 gs) x5 x6 (iV62 k) (some (.val (foundT hs k.toNat gs)))) M (foundT hs k.toNat gs) := fun M => ev_var rfl
  obtain ⟨s1, s2⟩ := found_show (gs := gs) oh (m := k.toNat) (by have := nk.hi; omega) nk.wt
  unfold rd_m62_4 dIfS dTst dOp dB1
  refine k1 _ fun M1 h1 => ?_
  refine ⟨s1, s2, ?_⟩
  refine k8 M1 _ ?_
  refine ⟨s1, s2, ?_⟩
  refine (o2_neSS (s := (toPy (foundT hs k.toNat gs)).shown)) _ ?_
  exact hN M1 h1
theorem m62_b (oh : HsOk hs) (o : GsOk gs) (nk : NumOk hs k) (hN : ∀ M', MLe M M' → P.nx (ρ62 s0 a x2 (hs62 hs) (gs62 gs) (iV62 (needI hs 13 gs)) x6 (iV62 k) (some (.val (foundT hs k.toNat gs)))) M') : rd_m62 C w P (ρ62 s0 a x2 (hs62 hs) (gs62 gs) (iV62 (needI hs 13 gs)) x6 (iV62 k) x8) M := by
  refine m62_0 (C := C) (w := w) oh o nk fun M1 h1 => ?_
  refine m62_1 (C := C) (w := w) oh o nk ?_
  refine m62_2 (C := C) (w := w) oh o nk ?_
  refine m62_3 (C := C) (w := w) oh o nk ?_
  exact m62_4 (C := C) (w := w) oh o nk fun M2 h2 => hN M2 (h1.tr h2)
theorem l62_5 (oh : HsOk hs) (o : GsOk gs) (hm : M a = some .draw) (hN : ∀ M' x7 x8, MLe M M' → P.nx (ρ62 s0 a x2 (hs62 hs) (gs62 gs) (iV62 (needI hs 13 gs)) (iV62 (mostI hs gs)) x7 x8) M') : rd_l62_5 C w P (ρ62 s0 a x2 (hs62 hs) (gs62 gs) (iV62 (needI hs 13 gs)) (iV62 (mostI hs gs)) x7 x8) M := by
  have c0 : 0 ≤ mostI hs gs := by
    have h1 := (needI_rg hs 13 gs).1
    have h2 : 0 ≤ capL.getD (hs.length - 1) 0 := by
      have l6 := oh.2.1
      generalize hs.length = L at l6
      match L, l6 with
      | 0, _ | 1, _ | 2, _ | 3, _ | 4, _ | 5, _ | 6, _ => decide
      | L + 7, h => omega
    unfold mostI; omega
  have c6 : mostI hs gs ≤ 6 := by
    have := cap_le (hs.length - 1)
    unfold mostI; omega
  have e6 : ∀ w, Ev (dVar 6) w (ρ62 s0 a x2 (hs62 hs) (gs62 gs) (iV62 (needI hs 13 gs)) (iV62 (mostI hs gs)) x7 x8) M (.int (mostI hs gs)) := fun w => ev_var rfl
  have em : ∀ w, Ev (dOp fMax2 (dC (.int 0)) (dOp fSub (dVar 6) (dC (.int 1)))) w (ρ62 s0 a x2 (hs62 hs) (gs62 gs) (iV62 (needI hs 13 gs)) (iV62 (mostI hs gs)) x7 x8) M (.int (max 0 (mostI hs gs - 1))) := fun w => ev_op ev_c (ev_op (e6 w) ev_c o2_sub) o2_max
  have et : ∀ w, EvG (dCall sp_take [] (dCons (dVar 1) (dCons (dOp fAdd (dVar 6) (dC (.int 1))) dNil))) w (ρ62 s0 a x2 (hs62 hs) (gs62 gs) (iV62 (needI hs 13 gs)) (iV62 (mostI hs gs)) x7 x8) M (fun z => ∃ k : Int, z = .int k ∧ 0 ≤ k ∧ k < mostI hs gs + 1) := fun w => evg_take (a := a) (n := mostI hs gs + 1) (ev_var rfl) (ev_op (e6 w) ev_c o2_add) hm (tk_of (by omega) (by omega))
  have k0 : ∀ K : List D → Mm → Prop, (∀ t : Int, 0 ≤ t → t < mostI hs gs + 1 → K [.int 0, .int 1, .int 2, .int 3, .int (max 0 (mostI hs gs - 1)), .int (mostI hs gs), .int t] M) →
      dCons (dC (.int 0)) (dCons (dC (.int 1)) (dCons (dC (.int 2)) (dCons (dC (.int 3)) (dCons (dOp fMax2 (dC (.int 0)) (dOp fSub (dVar 6) (dC (.int 1)))) (dCons (dVar 6) (dCons (dCall sp_take [] (dCons (dVar 1) (dCons (dOp fAdd (dVar 6) (dC (.int 1))) dNil))) dNil)))))) w (ρ62 s0 a x2 (hs62 hs) (gs62 gs) (iV62 (needI hs 13 gs)) (iV62 (mostI hs gs)) x7 x8) M K := fun K hK => by
    refine (ev_c (d := .int 0)) _ ?_
    refine (ev_c (d := .int 1)) _ ?_
    refine (ev_c (d := .int 2)) _ ?_
    refine (ev_c (d := .int 3)) _ ?_
    refine em _ _ ?_
    refine e6 _ _ ?_
    refine et _ _ ?_
    rintro _ ⟨t, rfl, t0, t1⟩
    exact hK t t0 t1
  unfold rd_l62_5 dFor iA dL dLst
  refine k0 _ fun t t0 t1 => ?_
  refine ⟨by show 7 ≤ 1000000; decide, ?_⟩
  refine forR_inv (fun ρ M' => MLe M M' ∧ ∃ y7 y8 : Option Sv, ρ = ρ62 s0 a x2 (hs62 hs) (gs62 gs) (iV62 (needI hs 13 gs)) (iV62 (mostI hs gs)) y7 y8) _ ?_ ?_ _ _ ⟨MLe.refl _, _, _, rfl⟩
  · rintro d hd F hF ρ M' ⟨h1, y7, y8, rfl⟩
    obtain ⟨k, rfl, nk⟩ : ∃ k : Int, d = .int k ∧ NumOk hs k := by
      have hd : d ∈ ([.int 0, .int 1, .int 2, .int 3, .int (max 0 (mostI hs gs - 1)), .int (mostI hs gs), .int t] : List D) := hd
      simp only [List.mem_cons, List.not_mem_nil, or_false] at hd
      rcases hd with rfl | rfl | rfl | rfl | rfl | rfl | rfl
      · exact ⟨0, rfl, num_ok (gs := gs) oh (by decide) (.inl (by decide))⟩
      · exact ⟨1, rfl, num_ok (gs := gs) oh (by decide) (.inl (by decide))⟩
      · exact ⟨2, rfl, num_ok (gs := gs) oh (by decide) (.inl (by decide))⟩
      · exact ⟨3, rfl, num_ok (gs := gs) oh (by decide) (.inl (by decide))⟩
      · exact ⟨_, rfl, num_ok (gs := gs) oh (by omega) (.inr (by omega))⟩
      · exact ⟨_, rfl, num_ok (gs := gs) oh (by omega) (.inr (by omega))⟩
      · exact ⟨_, rfl, num_ok (gs := gs) oh (by omega) (.inr (by omega))⟩
    exact m62_b (C := C) (x8 := y8) oh o nk fun M2 h2 => hF _ _ ⟨h1.tr h2, _, _, rfl⟩
  · rintro ρ M' ⟨h1, y7, y8, rfl⟩
    exact hN M' y7 y8 h1
theorem l62_b (hm : M a = some .draw) (hC : ∀ z3 z4 z5 z6 z7 z8 M', MLe M M' → P.ct (ρ62 s0 a x2 z3 z4 z5 z6 z7 z8) M') (hN : ∀ z3 z4 z5 z6 z7 z8 M', MLe M M' → P.nx (ρ62 s0 a x2 z3 z4 z5 z6 z7 z8) M') : rd_l62 C w P (ρ62 s0 a x2 x3 x4 x5 x6 x7 x8) M := by
  refine l62_0 (C := C) (w := w) hm fun hs oh => ?_
  refine l62_1 (C := C) (w := w) hm fun gs gh => ?_
  refine l62_2 (C := C) (w := w) (hC _ _ _ _ _ _ _ (MLe.refl _)) fun h2 => ?_
  have o := gh.ok h2
  refine l62_3 (C := C) (w := w) oh o fun M1 h1 => ?_
  refine l62_4 (C := C) (w := w) oh ?_
  exact l62_5 (C := C) (w := w) oh o (h1 _ _ hm) fun M2 x7 x8 h2 => hN _ _ _ _ _ _ _ (h1.tr h2)
end
theorem sh_law (C : Cl) : Shows sp_law 10 (rd_law C) := by
  intro ds M q e h
  obtain ⟨d, rfl, h⟩ := ar1_of h
  obtain ⟨ns, rfl, hn, hq⟩ : ∃ ns, d = .scr ns ∧ ns.length ≤ 63 ∧ q (.bl true) M := by
    cases d with
    | scr ns => exact ⟨ns, rfl, h.1, h.2⟩
    | _ => exact (show False from h).elim
  refine ⟨hn, fun a ha => ?_⟩
  have hm : updM M a .draw a = some .draw := updM_same
  have bd : -1000000 ≤ (3 : Int) + (if (12 : Int) < (ns.length : Nat) then (12 : Int) else ((ns.length : Nat) : Int)) ∧ (3 : Int) + (if (12 : Int) < (ns.length : Nat) then (12 : Int) else ((ns.length : Nat) : Int)) ≤ 1000000 := by split <;> omega
  refine ⟨bd.1, bd.2, ?_⟩
  refine forR_inv (fun ρ M' => MLe (updM M a .draw) M' ∧ ∃ x2 x3 x4 x5 x6 x7 x8 : Option Sv, ρ = ρ62 (some (.val (.scr ns))) a x2 x3 x4 x5 x6 x7 x8) _ ?_ ?_ _ _ ⟨MLe.refl _, _, _, _, _, _, _, _, rfl⟩
  · rintro d hd F hF ρ M' ⟨hM, x2, x3, x4, x5, x6, x7, x8, rfl⟩
    exact l62_b (C := C) (x2 := some (.val d)) (hM _ _ hm) (fun z3 z4 z5 z6 z7 z8 M2 h2 => hF _ _ ⟨hM.tr h2, _, _, _, _, _, _, _, rfl⟩) (fun z3 z4 z5 z6 z7 z8 M2 h2 => hF _ _ ⟨hM.tr h2, _, _, _, _, _, _, _, rfl⟩)
  · rintro ρ M' ⟨hM, x2, x3, x4, x5, x6, x7, x8, rfl⟩
    exact ⟨M, (updM_le ha).tr hM, hq⟩
end Px
set_option Elab.async false
set_option linter.all false
set_option maxRecDepth 100000
namespace Px
open PySem PySem.Spec PyProof.Rows L2
def top (i : Nat) : Stmt := PySem.Challenge.pw_flashfolds_k62_open_tables_against_fewer.main.body.getD i (.Pass ⟨0, 0, 0, 0⟩)
abbrev s_is_integer : Stmt := top 7
theorem sc_is_integer : FnScope ["thing"] ["thing"] (defScope s_is_integer) := ⟨rfl, rfl, rfl, by decide +kernel, rfl, by decide +kernel, by decide +kernel⟩
abbrev s_divisor : Stmt := top 9
theorem sc_divisor : FnScope ["one", "other"] ["one", "other"] (defScope s_divisor) := ⟨rfl, rfl, rfl, by decide +kernel, rfl, by decide +kernel, by decide +kernel⟩
abbrev s_copied : Stmt := top 23
theorem sc_copied : FnScope ["groups", "group"] ["groups"] (defScope s_copied) := ⟨rfl, rfl, rfl, by decide +kernel, rfl, by decide +kernel, by decide +kernel⟩
abbrev s_is_mixed : Stmt := top 27
theorem sc_is_mixed : FnScope ["groups", "group"] ["groups"] (defScope s_is_mixed) := ⟨rfl, rfl, rfl, by decide +kernel, rfl, by decide +kernel, by decide +kernel⟩
abbrev s__law_begin : Stmt := top 36
theorem sc__law_begin : FnScope ["_law_script", "_law_large", "_law_cell"] ["_law_script"] (defScope s__law_begin) := ⟨rfl, rfl, rfl, by decide +kernel, rfl, by decide +kernel, by decide +kernel⟩
abbrev s__law_take : Stmt := top 37
theorem sc__law_take : FnScope ["_law_draw", "_law_size", "_law_cell", "_law_found"] ["_law_draw", "_law_size"] (defScope s__law_take) := ⟨rfl, rfl, rfl, by decide +kernel, rfl, by decide +kernel, by decide +kernel⟩
abbrev s__law_shown : Stmt := top 40
theorem sc__law_shown : FnScope ["_law_half", "_law_number_here", "_law_rest"] ["_law_half", "_law_number_here"] (defScope s__law_shown) := ⟨rfl, rfl, rfl, by decide +kernel, rfl, by decide +kernel, by decide +kernel⟩
abbrev s__law_mixed : Stmt := top 42
theorem sc__law_mixed : FnScope ["_law_groups_here", "_law_group"] ["_law_groups_here"] (defScope s__law_mixed) := ⟨rfl, rfl, rfl, by decide +kernel, rfl, by decide +kernel, by decide +kernel⟩
abbrev s_is_between : Stmt := top 8
theorem sc_is_between : FnScope ["thing", "low", "high"] ["thing", "low", "high"] (defScope s_is_between) := ⟨rfl, rfl, rfl, by decide +kernel, rfl, by decide +kernel, by decide +kernel⟩
abbrev s_lowest : Stmt := top 10
theorem sc_lowest : FnScope ["top", "bottom", "shared"] ["top", "bottom"] (defScope s_lowest) := ⟨rfl, rfl, rfl, by decide +kernel, rfl, by decide +kernel, by decide +kernel⟩
abbrev s__law_pick : Stmt := top 38
theorem sc__law_pick : FnScope ["_law_draw", "_law_some"] ["_law_draw", "_law_some"] (defScope s__law_pick) := ⟨rfl, rfl, rfl, by decide +kernel, rfl, by decide +kernel, by decide +kernel⟩
abbrev s__law_left : Stmt := top 41
theorem sc__law_left : FnScope ["_law_groups_here", "_law_half", "_law_value", "_law_group", "_law_number_here"] ["_law_groups_here", "_law_half", "_law_value"] (defScope s__law_left) := ⟨rfl, rfl, rfl, by decide +kernel, rfl, by decide +kernel, by decide +kernel⟩
abbrev s_is_half : Stmt := top 11
theorem sc_is_half : FnScope ["thing"] ["thing"] (defScope s_is_half) := ⟨rfl, rfl, rfl, by decide +kernel, rfl, by decide +kernel, by decide +kernel⟩
abbrev s_folded : Stmt := top 12
theorem sc_folded : FnScope ["half", "top", "bottom", "rest"] ["half", "top", "bottom"] (defScope s_folded) := ⟨rfl, rfl, rfl, by decide +kernel, rfl, by decide +kernel, by decide +kernel⟩
abbrev s_is_group : Stmt := top 21
theorem sc_is_group : FnScope ["thing", "number"] ["thing"] (defScope s_is_group) := ⟨rfl, rfl, rfl, by decide +kernel, rfl, by decide +kernel, by decide +kernel⟩
abbrev s_need_asked : Stmt := top 31
theorem sc_need_asked : FnScope ["number"] ["number"] (defScope s_need_asked) := ⟨rfl, rfl, rfl, by decide +kernel, rfl, by decide +kernel, by decide +kernel⟩
abbrev s__law_groups : Stmt := top 39
theorem sc__law_groups : FnScope ["_law_draw", "_law_roof", "_law_numbers", "_law_found", "_law_turn", "_law_number_here", "_law_at", "_law_group"] ["_law_draw", "_law_roof"] (defScope s__law_groups) := ⟨rfl, rfl, rfl, by decide +kernel, rfl, by decide +kernel, by decide +kernel⟩
abbrev s_need_halves : Stmt := top 15
theorem sc_need_halves : FnScope ["halves", "at", "half"] ["halves"] (defScope s_need_halves) := ⟨rfl, rfl, rfl, by decide +kernel, rfl, by decide +kernel, by decide +kernel⟩
abbrev s_need_groups : Stmt := top 22
theorem sc_need_groups : FnScope ["groups", "before", "at", "group", "number"] ["groups"] (defScope s_need_groups) := ⟨rfl, rfl, rfl, by decide +kernel, rfl, by decide +kernel, by decide +kernel⟩
abbrev s_look_at : Stmt := top 24
theorem sc_look_at : FnScope ["half", "number"] ["half", "number"] (defScope s_look_at) := ⟨rfl, rfl, rfl, by decide +kernel, rfl, by decide +kernel, by decide +kernel⟩
abbrev s_values_at : Stmt := top 25
theorem sc_values_at : FnScope ["groups", "half", "group", "number"] ["groups", "half"] (defScope s_values_at) := ⟨rfl, rfl, rfl, by decide +kernel, rfl, by decide +kernel, by decide +kernel⟩
abbrev s_kept : Stmt := top 26
theorem sc_kept : FnScope ["groups", "half", "value", "group", "number"] ["groups", "half", "value"] (defScope s_kept) := ⟨rfl, rfl, rfl, by decide +kernel, rfl, by decide +kernel, by decide +kernel⟩
abbrev s__law_is_table : Stmt := top 44
theorem sc__law_is_table : FnScope ["_law_halves_here", "_law_groups_here", "_law_number_here", "_law_table", "_law_half", "_law_pair"] ["_law_halves_here", "_law_groups_here", "_law_number_here", "_law_table"] (defScope s__law_is_table) := ⟨rfl, rfl, rfl, by decide +kernel, rfl, by decide +kernel, by decide +kernel⟩
abbrev s_is_table : Stmt := top 33
theorem sc_is_table : FnScope ["halves", "groups", "number", "thing", "half", "pair"] ["halves", "groups", "number", "thing"] (defScope s_is_table) := ⟨rfl, rfl, rfl, by decide +kernel, rfl, by decide +kernel, by decide +kernel⟩
abbrev s_is_open : Stmt := top 34
theorem sc_is_open : FnScope ["halves", "groups", "number", "thing"] ["halves", "groups", "number", "thing"] (defScope s_is_open) := ⟨rfl, rfl, rfl, by decide +kernel, rfl, by decide +kernel, by decide +kernel⟩
abbrev s_open_value : Stmt := top 28
theorem sc_open_value : FnScope ["halves", "groups", "half", "number", "known", "value"] ["halves", "groups", "half", "number", "known"] (defScope s_open_value) := ⟨rfl, rfl, rfl, by decide +kernel, rfl, by decide +kernel, by decide +kernel⟩
abbrev s_is_open_for : Stmt := top 29
theorem sc_is_open_for : FnScope ["halves", "groups", "number", "known", "values", "half", "value"] ["halves", "groups", "number", "known"] (defScope s_is_open_for) := ⟨rfl, rfl, rfl, by decide +kernel, rfl, by decide +kernel, by decide +kernel⟩
abbrev s__law_needed : Stmt := top 43
theorem sc__law_needed : FnScope ["_law_halves_here", "_law_groups_here", "_law_known", "_law_name", "_law_numbers", "_law_group", "_law_found", "_law_half", "_law_values", "_law_later", "_law_number_here", "_law_value", "_law_one"] ["_law_halves_here", "_law_groups_here", "_law_known"] (defScope s__law_needed) := ⟨rfl, rfl, rfl, by decide +kernel, rfl, by decide +kernel, by decide +kernel⟩
abbrev s_table_for : Stmt := top 30
theorem sc_table_for : FnScope ["halves", "groups", "number", "known", "found", "half", "value"] ["halves", "groups", "number", "known"] (defScope s_table_for) := ⟨rfl, rfl, rfl, by decide +kernel, rfl, by decide +kernel, by decide +kernel⟩
abbrev s_open_table : Stmt := top 32
theorem sc_open_table : FnScope ["halves", "groups", "number", "known", "some"] ["halves", "groups", "number"] (defScope s_open_table) := ⟨rfl, rfl, rfl, by decide +kernel, rfl, by decide +kernel, by decide +kernel⟩
abbrev s_law : Stmt := top 45
theorem sc_law : FnScope ["_law_script", "_law_draw", "_law_turn", "_law_halves_here", "_law_groups_here", "_law_due", "_law_most", "_law_number_here", "_law_found", "_law_k"] ["_law_script"] (defScope s_law) := ⟨rfl, rfl, rfl, by decide +kernel, rfl, by decide +kernel, by decide +kernel⟩
abbrev s_BadGroups___init__ : Stmt := inClass (top 4) 0
theorem iw_BadGroups : InitW s_BadGroups___init__ "BadGroups.__init__" "at" "at" := ⟨_, _, _, _, _, _, _, _, _, _, _, _, _, rfl, rfl, rfl, fun _ _ _ _ _ _ _ _ _ => rfl, rfl, rfl, rfl, rfl, by decide +kernel, rfl, rfl, rfl, by decide, by decide, fun _ _ _ _ => rfl, fun _ _ _ _ => rfl, fun _ _ _ _ => rfl, _, fun _ _ _ _ => rfl⟩
structure Ad where
  (is_integer divisor copied is_mixed _law_begin _law_take _law_shown _law_mixed is_between lowest _law_pick _law_left is_half folded is_group need_asked _law_groups need_halves need_groups look_at values_at kept _law_is_table is_table is_open open_value is_open_for _law_needed table_for open_table law : Addr × FuncData)
structure Txt (K : PySem.W.Frag) (mg : Str → Option Value) (P : Program) (C : Cl) (A : Ad) : Prop where
  z_abs : mg "abs" = none
  z_all : mg "all" = none
  z_any : mg "any" = none
  z_bool : mg "bool" = none
  z_divmod : mg "divmod" = none
  z_enumerate : mg "enumerate" = none
  z_int : mg "int" = none
  z_isinstance : mg "isinstance" = none
  z_len : mg "len" = none
  z_list : mg "list" = none
  z_max : mg "max" = none
  z_min : mg "min" = none
  z_range : mg "range" = none
  z_repr : mg "repr" = none
  z_set : mg "set" = none
  z_sorted : mg "sorted" = none
  z_super : mg "super" = none
  z_tuple : mg "tuple" = none
  z_zip : mg "zip" = none
  c_GREATEST_HALF : ∃ t, mg "GREATEST_HALF" = some (.int 1000 t)
  c_GREATEST_NUMBER : ∃ t, mg "GREATEST_NUMBER" = some (.int 5040 t)
  c_MOST_ASKED : ∃ t, mg "MOST_ASKED" = some (.int 6 t)
  c_MOST_GROUPS : ∃ t, mg "MOST_GROUPS" = some (.int 4 t)
  c_MOST_HALVES : ∃ t, mg "MOST_HALVES" = some (.int 6 t)
  c_MOST_NUMBERS : ∃ t, mg "MOST_NUMBERS" = some (.int 12 t)
  x_BadNumber : ExcTxt K mg "BadNumber" C.BadNumber
  xa_BadGroups : ExaTxt P K mg "BadGroups" C.BadGroups "at"
  is_integer : DefT K mg "is_integer" s_is_integer ["thing"] A.is_integer.1 A.is_integer.2
  divisor : DefT K mg "divisor" s_divisor ["one", "other"] A.divisor.1 A.divisor.2
  copied : DefT K mg "copied" s_copied ["groups"] A.copied.1 A.copied.2
  is_mixed : DefT K mg "is_mixed" s_is_mixed ["groups"] A.is_mixed.1 A.is_mixed.2
  _law_begin : DefT K mg "_law_begin" s__law_begin ["_law_script"] A._law_begin.1 A._law_begin.2
  _law_take : DefT K mg "_law_take" s__law_take ["_law_draw", "_law_size"] A._law_take.1 A._law_take.2
  _law_shown : DefT K mg "_law_shown" s__law_shown ["_law_half", "_law_number_here"] A._law_shown.1 A._law_shown.2
  _law_mixed : DefT K mg "_law_mixed" s__law_mixed ["_law_groups_here"] A._law_mixed.1 A._law_mixed.2
  is_between : DefT K mg "is_between" s_is_between ["thing", "low", "high"] A.is_between.1 A.is_between.2
  lowest : DefT K mg "lowest" s_lowest ["top", "bottom"] A.lowest.1 A.lowest.2
  _law_pick : DefT K mg "_law_pick" s__law_pick ["_law_draw", "_law_some"] A._law_pick.1 A._law_pick.2
  _law_left : DefT K mg "_law_left" s__law_left ["_law_groups_here", "_law_half", "_law_value"] A._law_left.1 A._law_left.2
  is_half : DefT K mg "is_half" s_is_half ["thing"] A.is_half.1 A.is_half.2
  folded : DefT K mg "folded" s_folded ["half", "top", "bottom"] A.folded.1 A.folded.2
  is_group : DefT K mg "is_group" s_is_group ["thing"] A.is_group.1 A.is_group.2
  need_asked : DefT K mg "need_asked" s_need_asked ["number"] A.need_asked.1 A.need_asked.2
  _law_groups : DefT K mg "_law_groups" s__law_groups ["_law_draw", "_law_roof"] A._law_groups.1 A._law_groups.2
  need_halves : DefT K mg "need_halves" s_need_halves ["halves"] A.need_halves.1 A.need_halves.2
  need_groups : DefT K mg "need_groups" s_need_groups ["groups"] A.need_groups.1 A.need_groups.2
  look_at : DefT K mg "look_at" s_look_at ["half", "number"] A.look_at.1 A.look_at.2
  values_at : DefT K mg "values_at" s_values_at ["groups", "half"] A.values_at.1 A.values_at.2
  kept : DefT K mg "kept" s_kept ["groups", "half", "value"] A.kept.1 A.kept.2
  _law_is_table : DefT K mg "_law_is_table" s__law_is_table ["_law_halves_here", "_law_groups_here", "_law_number_here", "_law_table"] A._law_is_table.1 A._law_is_table.2
  is_table : DefT K mg "is_table" s_is_table ["halves", "groups", "number", "thing"] A.is_table.1 A.is_table.2
  is_open : DefT K mg "is_open" s_is_open ["halves", "groups", "number", "thing"] A.is_open.1 A.is_open.2
  open_value : DefT K mg "open_value" s_open_value ["halves", "groups", "half", "number", "known"] A.open_value.1 A.open_value.2
  is_open_for : DefT K mg "is_open_for" s_is_open_for ["halves", "groups", "number", "known"] A.is_open_for.1 A.is_open_for.2
  _law_needed : DefT K mg "_law_needed" s__law_needed ["_law_halves_here", "_law_groups_here", "_law_known"] A._law_needed.1 A._law_needed.2
  table_for : DefT K mg "table_for" s_table_for ["halves", "groups", "number", "known"] A.table_for.1 A.table_for.2
  open_table : DefT K mg "open_table" s_open_table ["halves", "groups", "number"] A.open_table.1 A.open_table.2
  law : DefT K mg "law" s_law ["_law_script"] A.law.1 A.law.2
section
variable {P : Program} {w : World} {K : PySem.W.Frag} {mg : Str → Option Value} {base : Heap} {C : Cl} {A : Ad}
theorem ok_is_integer (T : Txt K mg P C A) : FnG P w K mg base 1 A.is_integer.1 A.is_integer.2 ["thing"] (toSp K 1 (sp_is_integer C)) :=
  Fun.pok T.is_integer.f sc_is_integer rfl (sh_is_integer C) fun cdv A' outer s H E hr hG =>
    (dss_one (ds_ret (de_and (de_isi "int" (by decide) rfl T.z_isinstance rfl T.z_int (by decide +kernel) (do_of (dv 0))) (de_bone (de_not (de_isi "bool" (by decide) rfl T.z_isinstance rfl T.z_bool (by decide +kernel) (do_of (dv 0))))))))
theorem ok_divisor (T : Txt K mg P C A) : FnG P w K mg base 1 A.divisor.1 A.divisor.2 ["one", "other"] (toSp K 2 (sp_divisor C)) :=
  Fun.pok T.divisor.f sc_divisor rfl (sh_divisor C) fun cdv A' outer s H E hr hG =>
    (dss_cons (ds_while (passes_of rfl) (dt_gt (do_of (dv 1)) (do_of de_int)) (dss_one (ds_par 0 1 rfl sc_divisor.nd (da_cons (dv 1) (da_cons (de_mod (do_of (dv 0)) (do_of (dv 1))) da_nil)))))
      (dss_one (ds_ret (dv 0))))
theorem ok_copied (T : Txt K mg P C A) : FnG P w K mg base 1 A.copied.1 A.copied.2 ["groups"] (toSp K 1 (sp_copiedS C)) :=
  Fun.pok T.copied.f sc_copied rfl (sh_copiedS C) fun cdv A' outer s H E hr hG =>
    (dss_one (ds_ret (de_tupc rfl T.z_tuple (do_of (de_l (dl_comp rfl sc_copied.nd (own := [("group", 1)]) (di_any (dv 0)) (blkOk_by rfl) (fun _ _ _ _ _ => (dg_nm 1 sc_copied.nd)) (fun _ _ _ _ _ => dts_nil) (fun _ _ _ _ _ => (de_tupc rfl T.z_tuple (do_of (dv 1))))))))))
theorem ok_is_mixed (T : Txt K mg P C A) : FnG P w K mg base 1 A.is_mixed.1 A.is_mixed.2 ["groups"] (toSp K 1 (sp_is_mixed C)) :=
  Fun.pok T.is_mixed.f sc_is_mixed rfl (sh_is_mixed C) fun cdv A' outer s H E hr hG =>
    (dss_one (ds_ret (de_gt (do_of (de_len rfl T.z_len (do_of (de_l (dl_comp rfl sc_is_mixed.nd (own := [("group", 1)]) (di_any (dv 0)) (blkOk_by rfl) (fun _ _ _ _ _ => (dg_nm 1 sc_is_mixed.nd)) (fun _ _ _ _ _ => (dts_one (dt_ne hr.units (do_of (dv 1)) (do_of (de_tup da_nil))))) (fun _ _ _ _ _ => (dv 1))))))) (do_of de_int))))
theorem ok__law_begin (T : Txt K mg P C A) : FnG P w K mg base 1 A._law_begin.1 A._law_begin.2 ["_law_script"] (toSp K 1 sp_begin) :=
  Fun.pok T._law_begin.f sc__law_begin rfl sh_begin fun cdv A' outer s H E hr hG =>
    (dss_cons (ds_setCO 1 rfl sc__law_begin.nd (sw_true rfl rfl rfl (by decide +kernel)) (own := [("_law_cell", 2)]) (di_list (dv 0)) (blkOk_by rfl) (fun _ _ _ _ _ => (dg_nm 2 sc__law_begin.nd)) (fun _ _ _ _ _ => (dts_one (dt_ge (do_of (de_abs rfl T.z_abs (do_of (dv 2)))) (do_of (de_pow (do_of de_int) (do_of de_int)))))) (fun _ _ _ _ _ => (de_abs rfl T.z_abs (do_of (dv 2))))) (dss_one (ds_retDraw (X := cxOf (L2.CX P w) P w K mg base ["_law_script", "_law_large", "_law_cell"] "_law_begin" (defScope s__law_begin) _ cdv A' outer s H E) rfl rfl (Or.inl rfl) (Or.inl rfl) (by decide) (by decide) (by decide) (by decide) rfl T.z_list)))
theorem ok__law_take (T : Txt K mg P C A) : FnG P w K mg base 1 A._law_take.1 A._law_take.2 ["_law_draw", "_law_size"] (toSp K 2 sp_take) :=
  Fun.gok T._law_take.f sc__law_take (fun vs H Q E h => toSp_len h) fun cdv A' outer s H vs Q E hr hG h => ⟨rdTake K,
    (pss_cons (ps_if (L2.PW.pt (pw_and (pt_cmpR op_eq (dg0 hr "rest") pe_int (nomark _)) (pw_and1 (pt_cmpR (op_neD hr.units) (dg0 hr "large") (pe_lst pa_nil) (nomark _)))))
      (pss_one (ps_dput (hu_of hr) (pv 0) pe_str (pe_bm PySem.F.plainAttrs_list PySem.F.slot_list_pop PySem.F.type_list_pop mt_popAt (dg0 hr "large") (pa_cons pe_int pa_nil)) rfl))
      (pss_one (ps_if (pt_cmpR op_eq (dg0 hr "rest") pe_int (nomark _))
        (pss_cons (ps_dput (hu_of hr) (pv 0) pe_str (pe_op op_add (dg0 hr "turn") pe_int) rfl)
        (pss_cons (ps_for (passes_of rfl) rfl (pi_list (pe_op op_cat (pe_lst (pa_cons (dg0 hr "turn") pa_nil)) (dg0 hr "cells"))) (pg_name (i := 2) sc__law_take.nd rfl (Or.inl rfl))
          (pss_one (ps_dput (hu_of hr) (pv 0) pe_str (pe_op op_mod (pe_callTy call_int1 rfl T.z_int (by decide +kernel) (pa_cons (pe_op op_add (pe_op op_add (pe_op op_mul (dg0 hr "mix") pe_int) (pe_op op_mul (pv 2) pe_int)) pe_int) pa_nil) (by decide) (by decide)) pe_int) rfl)))
        (pss_one (ps_dput (hu_of hr) (pv 0) pe_str (pe_op op_mod (pe_callTy call_int1 rfl T.z_int (by decide +kernel) (pa_cons (pe_op op_pow (dg0 hr "mix") pe_int) pa_nil) (by decide) (by decide)) pe_int) rfl))))
        pss_nil)))
    (pss_cons (ps_asg (pe_callB call_divmodW rfl T.z_divmod (by decide +kernel) (pa_cons (dg0 hr "rest") (pa_cons (pv 1) pa_nil)) (by decide) (by decide)) (pg_tup rfl (pgs_cons (pg_sub (pv 0) pe_str (set_dict (hu_of hr))) (pgs_cons (pg_name (i := 3) sc__law_take.nd rfl (Or.inl rfl)) pgs_nil))))
    (pss_one (ps_ret (pv 3))))), take_run rfl h⟩
theorem ok__law_shown (T : Txt K mg P C A) : FnG P w K mg base 1 A._law_shown.1 A._law_shown.2 ["_law_half", "_law_number_here"] (toSp K 2 (sp__law_shown C)) :=
  Fun.pok T._law_shown.f sc__law_shown rfl (sh__law_shown C) fun cdv A' outer s H E hr hG =>
    (dss_cons (ds_set 2 sc__law_shown.nd (de_mod (do_of (dv 1)) (do_of (de_mul (do_of de_int) (do_of (dv 0))))))
      (dss_one (ds_ret (de_min2 rfl rfl T.z_min (do_of (dv 2)) (do_of (de_sub (do_of (de_mul (do_of de_int) (do_of (dv 0)))) (do_of (dv 2))))))))
theorem ok__law_mixed (T : Txt K mg P C A) : FnG P w K mg base 1 A._law_mixed.1 A._law_mixed.2 ["_law_groups_here"] (toSp K 1 (sp__law_mixed C)) :=
  Fun.pok T._law_mixed.f sc__law_mixed rfl (sh__law_mixed C) fun cdv A' outer s H E hr hG =>
    (dss_one (ds_ret (de_gt (do_of (de_len rfl T.z_len (do_of (de_l (dl_comp rfl sc__law_mixed.nd (own := [("_law_group", 1)]) (di_any (dv 0)) (blkOk_by rfl) (fun _ _ _ _ _ => (dg_nm 1 sc__law_mixed.nd)) (fun _ _ _ _ _ => (dts_one (dt_ne hr.units (do_of (dv 1)) (do_of (de_l (dl_lst da_nil)))))) (fun _ _ _ _ _ => (dv 1))))))) (do_of de_int))))
theorem ok_is_between (T : Txt K mg P C A) : FnG P w K mg base 2 A.is_between.1 A.is_between.2 ["thing", "low", "high"] (toSp K 3 (sp_is_between C)) :=
  Fun.pok T.is_between.f sc_is_between rfl (sh_is_between C) fun cdv A' outer s H E hr hG =>
    (dss_one (ds_ret (de_and (de_call (ok_is_integer T) rfl (fun _ _ _ _ h => ar1_len h) (hr.mono (by decide)) hG rfl T.is_integer.g T.is_integer.f.kp T.is_integer.b (takes_of rfl rfl rfl rfl) (da_cons (dv 0) da_nil)) (de_bone (de_ch op_le op_le (do_of (dv 1)) (do_of (dv 0)) (do_of (dv 2)))))))
theorem ok_lowest (T : Txt K mg P C A) : FnG P w K mg base 2 A.lowest.1 A.lowest.2 ["top", "bottom"] (toSp K 2 (sp_lowest C)) :=
  Fun.pok T.lowest.f sc_lowest rfl (sh_lowest C) fun cdv A' outer s H E hr hG =>
    (dss_cons (ds_set 2 sc_lowest.nd (de_call (ok_divisor T) rfl (fun _ _ _ _ h => ar2_len h) (hr.mono (by decide)) hG rfl T.divisor.g T.divisor.f.kp T.divisor.b (takes_of rfl rfl rfl rfl) (da_cons (dv 0) (da_cons (dv 1) da_nil))))
      (dss_one (ds_ret (de_tup (da_cons (de_div (do_of (dv 0)) (do_of (dv 2))) (da_cons (de_div (do_of (dv 1)) (do_of (dv 2))) da_nil))))))
theorem ok__law_pick (T : Txt K mg P C A) : FnG P w K mg base 2 A._law_pick.1 A._law_pick.2 ["_law_draw", "_law_some"] (toSp K 2 sp_pick) :=
  Fun.pok T._law_pick.f sc__law_pick rfl sh_pick fun cdv A' outer s H E hr hG =>
    (dss_one (ds_ret (de_ix (do_of (dv 1)) (do_of (de_call (ok__law_take T) rfl (fun _ _ _ _ h => ar2_len h) (hr.mono (by decide)) hG rfl T._law_take.g T._law_take.f.kp T._law_take.b (takes_of rfl rfl rfl rfl) (da_cons (dv 0) (da_cons (de_len rfl T.z_len (do_of (dv 1))) da_nil)))))))
theorem ok__law_left (T : Txt K mg P C A) : FnG P w K mg base 2 A._law_left.1 A._law_left.2 ["_law_groups_here", "_law_half", "_law_value"] (toSp K 3 (sp__law_left C)) :=
  Fun.pok T._law_left.f sc__law_left rfl (sh__law_left C) fun cdv A' outer s H E hr hG =>
    (dss_one (ds_ret (de_l (dl_comp rfl sc__law_left.nd (own := [("_law_group", 3)]) (di_any (dv 0)) (blkOk_by rfl) (fun _ _ _ _ _ => (dg_nm 3 sc__law_left.nd)) (fun _ _ _ _ _ => dts_nil) (fun _ _ _ _ _ => (de_l (dl_comp rfl sc__law_left.nd (own := [("_law_number_here", 4)]) (di_any (dv 3)) (blkOk_by rfl) (fun _ _ _ _ _ => (dg_nm 4 sc__law_left.nd)) (fun _ _ _ _ _ => (dts_one (dt_eq hr.units (do_of (de_call (ok__law_shown T) rfl (fun _ _ _ _ h => ar2_len h) (hr.mono (by decide)) hG rfl T._law_shown.g T._law_shown.f.kp T._law_shown.b takes0 (da_cons (dv 1) (da_cons (dv 4) da_nil)))) (do_of (dv 2))))) (fun _ _ _ _ _ => (dv 4)))))))))
theorem ok_is_half (T : Txt K mg P C A) : FnG P w K mg base 3 A.is_half.1 A.is_half.2 ["thing"] (toSp K 1 (sp_is_half C)) :=
  Fun.pok T.is_half.f sc_is_half rfl (sh_is_half C) fun cdv A' outer s H E hr hG =>
    (dss_one (ds_ret (de_call (ok_is_between T) rfl (fun _ _ _ _ h => ar3_len h) (hr.mono (by decide)) hG rfl T.is_between.g T.is_between.f.kp T.is_between.b (takes_of rfl rfl rfl rfl) (da_cons (dv 0) (da_cons de_int (da_cons (de_gintE rfl T.c_GREATEST_HALF) da_nil))))))
theorem ok_folded (T : Txt K mg P C A) : FnG P w K mg base 3 A.folded.1 A.folded.2 ["half", "top", "bottom"] (toSp K 3 (sp_folded C)) :=
  Fun.pok T.folded.f sc_folded rfl (sh_folded C) fun cdv A' outer s H E hr hG =>
    (dss_cons (ds_set 3 sc_folded.nd (de_mod (do_of (dv 1)) (do_of (de_mul (do_of (de_mul (do_of de_int) (do_of (dv 0)))) (do_of (dv 2))))))
      (dss_one (ds_ret (de_call (ok_lowest T) rfl (fun _ _ _ _ h => ar2_len h) (hr.mono (by decide)) hG rfl T.lowest.g T.lowest.f.kp T.lowest.b (takes_of rfl rfl rfl rfl) (da_cons (de_min rfl rfl T.z_min (do_of (de_l (dl_lst (da_cons (dv 3) (da_cons (de_sub (do_of (de_mul (do_of (de_mul (do_of de_int) (do_of (dv 0)))) (do_of (dv 2)))) (do_of (dv 3))) da_nil)))))) (da_cons (dv 2) da_nil))))))
theorem ok_is_group (T : Txt K mg P C A) : FnG P w K mg base 3 A.is_group.1 A.is_group.2 ["thing"] (toSp K 1 (sp_is_group C)) :=
  Fun.pok T.is_group.f sc_is_group rfl (sh_is_group C) fun cdv A' outer s H E hr hG =>
    (dss_cons (ds_if (DW.dt (dw_or (dt_not (dt_val (de_isi2 "list" "tuple" (by decide) (by decide) rfl T.z_isinstance rfl T.z_list (by decide +kernel) rfl T.z_tuple (by decide +kernel) (do_of (dv 0))))) (dw_or1 (dt_eq hr.units (do_of (de_len rfl T.z_len (do_of (dv 0)))) (do_of de_int))))) (dss_one (ds_ret de_bl)) dss_nil)
      (dss_one (ds_ret (de_and (de_all rfl rfl T.z_all (do_of (de_l (dl_comp rfl sc_is_group.nd (own := [("number", 1)]) (di_any (dv 0)) (blkOk_by rfl) (fun _ _ _ _ _ => (dg_nm 1 sc_is_group.nd)) (fun _ _ _ _ _ => dts_nil) (fun _ _ _ _ _ => (de_call (ok_is_between T) rfl (fun _ _ _ _ h => ar3_len h) (hr.mono (by decide)) hG rfl T.is_between.g T.is_between.f.kp T.is_between.b takes0 (da_cons (dv 1) (da_cons de_int (da_cons (de_gintE rfl T.c_GREATEST_NUMBER) da_nil))))))))) (de_bone (de_eq hr.units (do_of (de_lenSetX rfl rfl T.z_len rfl T.z_set (do_of (dv 0)))) (do_of (de_len rfl T.z_len (do_of (dv 0))))))))))
theorem ok_need_asked (T : Txt K mg P C A) : FnG P w K mg base 3 A.need_asked.1 A.need_asked.2 ["number"] (toSp K 1 (sp_need_asked C)) :=
  Fun.pok T.need_asked.f sc_need_asked rfl (sh_need_asked C) fun cdv A' outer s H E hr hG =>
    (dss_one (ds_if (dt_not (dt_val (de_call (ok_is_between T) rfl (fun _ _ _ _ h => ar3_len h) (hr.mono (by decide)) hG rfl T.is_between.g T.is_between.f.kp T.is_between.b (takes_of rfl rfl rfl rfl) (da_cons (dv 0) (da_cons de_int (da_cons (de_gintE rfl T.c_MOST_ASKED) da_nil)))))) (dss_one (ds_raise rfl (takes_of rfl rfl rfl rfl) T.x_BadNumber rfl)) dss_nil))
theorem ok__law_groups (T : Txt K mg P C A) : FnG P w K mg base 3 A._law_groups.1 A._law_groups.2 ["_law_draw", "_law_roof"] (toSp K 2 (sp__law_groups C)) :=
  Fun.pok T._law_groups.f sc__law_groups rfl (sh__law_groups C) fun cdv A' outer s H E hr hG =>
    (dss_cons (ds_par2LB 2 3 (own := [("_law_turn", 4)]) rfl sc__law_groups.nd (di_r1 rfl T.z_range (de_add (do_of de_int) (do_of (de_call (ok__law_take T) rfl (fun _ _ _ _ h => ar2_len h) (hr.mono (by decide)) hG rfl T._law_take.g T._law_take.f.kp T._law_take.b (takes_of rfl rfl rfl rfl) (da_cons (dv 0) (da_cons de_int da_nil)))))) (blkOk_by rfl) (fun _ _ _ _ _ => (dg_nm 4 sc__law_groups.nd)))
      (dss_cons (ds_for (passes_of rfl) rfl (di_r1 rfl T.z_range (de_add (do_of (de_lenB 3 rfl T.z_len)) (do_of (de_call (ok__law_take T) rfl (fun _ _ _ _ h => ar2_len h) (hr.mono (by decide)) hG rfl T._law_take.g T._law_take.f.kp T._law_take.b (takes_of rfl rfl rfl rfl) (da_cons (dv 0) (da_cons (de_call (ok__law_pick T) rfl (fun _ _ _ _ h => ar2_len h) (hr.mono (by decide)) hG rfl T._law_pick.g T._law_pick.f.kp T._law_pick.b (takes_of rfl rfl rfl rfl) (da_cons (dv 0) (da_cons (de_l (dl_lst (da_cons de_int (da_cons de_int (da_cons de_int da_nil))))) da_nil))) da_nil)))))) (dg_nm 4 sc__law_groups.nd) (dss_cons (ds_set 5 sc__law_groups.nd (de_call (ok__law_take T) rfl (fun _ _ _ _ h => ar2_len h) (hr.mono (by decide)) hG rfl T._law_take.g T._law_take.f.kp T._law_take.b (takes_of rfl rfl rfl rfl) (da_cons (dv 0) (da_cons (de_add (do_of (dv 1)) (do_of de_int)) da_nil))))
      (dss_one (ds_if (dt_notinI (do_of (dv 5)) (dn 2)) (dss_cons (ds_app 2 (dv 5))
      (dss_cons (ds_set 6 sc__law_groups.nd (de_call (ok__law_take T) rfl (fun _ _ _ _ h => ar2_len h) (hr.mono (by decide)) hG rfl T._law_take.g T._law_take.f.kp T._law_take.b (takes_of rfl rfl rfl rfl) (da_cons (dv 0) (da_cons (de_lenB 3 rfl T.z_len) da_nil))))
      (dss_one (ds_bagApp 3 (dv 6) (dv 5))))) dss_nil))))
      (dss_one (ds_thLL 3 (ds_ret (de_l (dl_comp rfl sc__law_groups.nd (own := [("_law_group", 7)]) (di_any (dv 3)) (blkOk_by rfl) (fun _ _ _ _ _ => (dg_nm 7 sc__law_groups.nd)) (fun _ _ _ _ _ => (dts_one (dt_ne hr.units (do_of (dv 7)) (do_of (de_l (dl_lst da_nil)))))) (fun _ _ _ _ _ => (dv 7)))))))))
theorem ok_need_halves (T : Txt K mg P C A) : FnG P w K mg base 4 A.need_halves.1 A.need_halves.2 ["halves"] (toSp K 1 (sp_need_halves C)) :=
  Fun.pok T.need_halves.f sc_need_halves rfl (sh_need_halves C) fun cdv A' outer s H E hr hG =>
    (dss_cons (ds_if (DW.dt (dw_or (dt_not (dt_val (de_isi2 "list" "tuple" (by decide) (by decide) rfl T.z_isinstance rfl T.z_list (by decide +kernel) rfl T.z_tuple (by decide +kernel) (do_of (dv 0))))) (dw_or1 (dt_eq hr.units (do_of (de_len rfl T.z_len (do_of (dv 0)))) (do_of de_int))))) (dss_one ds_never) dss_nil)
      (dss_one (ds_for (passes_of rfl) rfl (di_enumA rfl T.z_enumerate (dv 0)) (dg_tup rfl (dgs_cons (dg_nm 1 sc_need_halves.nd) (dgs_cons (dg_nm 2 sc_need_halves.nd) dgs_nil))) (dss_one (ds_if (DW.dt (dw_or (dt_eq hr.units (do_of (dv 1)) (do_of (de_gintE rfl T.c_MOST_HALVES))) (dw_or1 (dt_not (dt_val (de_call (ok_is_half T) rfl (fun _ _ _ _ h => ar1_len h) (hr.mono (by decide)) hG rfl T.is_half.g T.is_half.f.kp T.is_half.b (takes_of rfl rfl rfl rfl) (da_cons (dv 2) da_nil))))))) (dss_one ds_never) dss_nil)))))
theorem ok_need_groups (T : Txt K mg P C A) : FnG P w K mg base 4 A.need_groups.1 A.need_groups.2 ["groups"] (toSp K 1 (sp_need_groups C)) :=
  Fun.pok T.need_groups.f sc_need_groups rfl (sh_need_groups C) fun cdv A' outer s H E hr hG =>
    (dss_cons (ds_if (DW.dt (dw_or (dt_not (dt_val (de_isi2 "list" "tuple" (by decide) (by decide) rfl T.z_isinstance rfl T.z_list (by decide +kernel) rfl T.z_tuple (by decide +kernel) (do_of (dv 0))))) (dw_or1 (dt_lt (do_of (de_len rfl T.z_len (do_of (dv 0)))) (do_of de_int))))) (dss_one (ds_raiseA (k := 0) rfl (takes_of rfl rfl rfl rfl) T.xa_BadGroups (hr.mono (by decide)) rfl de_int)) dss_nil)
      (dss_cons (ds_setO 1 sc_need_groups.nd (dl_lst da_nil))
      (dss_one (ds_for (passes_of rfl) rfl (di_enumA rfl T.z_enumerate (dv 0)) (dg_tup rfl (dgs_cons (dg_nm 2 sc_need_groups.nd) (dgs_cons (dg_nm 3 sc_need_groups.nd) dgs_nil))) (dss_cons (ds_if (DW.dt (dw_or (dt_eq hr.units (do_of (dv 2)) (do_of (de_gintE rfl T.c_MOST_GROUPS))) (dw_or (dt_not (dt_val (de_call (ok_is_group T) rfl (fun _ _ _ _ h => ar1_len h) (hr.mono (by decide)) hG rfl T.is_group.g T.is_group.f.kp T.is_group.b (takes_of rfl rfl rfl rfl) (da_cons (dv 3) da_nil)))) (dw_or1 (dt_val (de_any rfl rfl T.z_any (do_of (de_l (dl_comp rfl sc_need_groups.nd (own := [("number", 4)]) (di_any (dv 3)) (blkOk_by rfl) (fun _ _ _ _ _ => (dg_nm 4 sc_need_groups.nd)) (fun _ _ _ _ _ => dts_nil) (fun _ _ _ _ _ => (de_inI (do_of (dv 4)) (dn 1)))))))))))) (dss_one (ds_raiseA (k := 0) rfl (takes_of rfl rfl rfl rfl) T.xa_BadGroups (hr.mono (by decide)) rfl (dv 2))) dss_nil)
      (dss_cons (ds_extS 1 (dv 3))
      (dss_one (ds_if (dt_gt (do_of (de_len rfl T.z_len (dn 1))) (do_of (de_gintE rfl T.c_MOST_NUMBERS))) (dss_one (ds_raiseA (k := 0) rfl (takes_of rfl rfl rfl rfl) T.xa_BadGroups (hr.mono (by decide)) rfl (dv 2))) dss_nil))))))))
theorem ok_look_at (T : Txt K mg P C A) : FnG P w K mg base 4 A.look_at.1 A.look_at.2 ["half", "number"] (toSp K 2 (sp_look_at C)) :=
  Fun.pok T.look_at.f sc_look_at rfl (sh_look_at C) fun cdv A' outer s H E hr hG =>
    (dss_one (ds_ret (de_ix (do_of (de_call (ok_folded T) rfl (fun _ _ _ _ h => ar3_len h) (hr.mono (by decide)) hG rfl T.folded.g T.folded.f.kp T.folded.b (takes_of rfl rfl rfl rfl) (da_cons (dv 0) (da_cons (dv 1) (da_cons de_int da_nil))))) (do_of de_int))))
theorem ok_values_at (T : Txt K mg P C A) : FnG P w K mg base 5 A.values_at.1 A.values_at.2 ["groups", "half"] (toSp K 2 (sp_values_atS C)) :=
  Fun.pok T.values_at.f sc_values_at rfl (sh_values_atS C) fun cdv A' outer s H E hr hG =>
    (dss_one (ds_ret (de_l (dl_sortSetL rfl rfl T.z_set rfl T.z_sorted (do_of (de_l (dl_comp2 [3] (own := [("group", 2), ("number", 3)]) rfl sc_values_at.nd (di_any (dv 0)) (blkOk_by rfl) (fun _ _ _ _ _ => (dg_nm 2 sc_values_at.nd)) (fun _ _ _ _ _ => dts_nil) (fun _ _ _ _ _ => (di_any (dv 2))) (fun _ _ _ _ _ => (dg_nm 3 sc_values_at.nd)) (fun _ _ _ _ _ => dts_nil) (fun _ _ _ _ _ => (de_call (ok_look_at T) rfl (fun _ _ _ _ h => ar2_len h) (hr.mono (by decide)) hG rfl T.look_at.g T.look_at.f.kp T.look_at.b takes0 (da_cons (dv 1) (da_cons (dv 3) da_nil)))))))))))
theorem ok_kept (T : Txt K mg P C A) : FnG P w K mg base 5 A.kept.1 A.kept.2 ["groups", "half", "value"] (toSp K 3 (sp_kept C)) :=
  Fun.pok T.kept.f sc_kept rfl (sh_kept C) fun cdv A' outer s H E hr hG =>
    (dss_one (ds_ret (de_tupc rfl T.z_tuple (do_of (de_l (dl_comp rfl sc_kept.nd (own := [("group", 3)]) (di_any (dv 0)) (blkOk_by rfl) (fun _ _ _ _ _ => (dg_nm 3 sc_kept.nd)) (fun _ _ _ _ _ => dts_nil) (fun _ _ _ _ _ => (de_tupc rfl T.z_tuple (do_of (de_l (dl_comp rfl sc_kept.nd (own := [("number", 4)]) (di_any (dv 3)) (blkOk_by rfl) (fun _ _ _ _ _ => (dg_nm 4 sc_kept.nd)) (fun _ _ _ _ _ => (dts_one (dt_eq hr.units (do_of (de_call (ok_look_at T) rfl (fun _ _ _ _ h => ar2_len h) (hr.mono (by decide)) hG rfl T.look_at.g T.look_at.f.kp T.look_at.b takes0 (da_cons (dv 1) (da_cons (dv 4) da_nil)))) (do_of (dv 2))))) (fun _ _ _ _ _ => (dv 4)))))))))))))
theorem okn__law_is_table (T : Txt K mg P C A) : ∀ n : Nat, FnG P w K mg base (4 + n) A._law_is_table.1 A._law_is_table.2 ["_law_halves_here", "_law_groups_here", "_law_number_here", "_law_table"] (toSp K 4 (spnW__law_is_table C n))
  | 0 => FnG.never
  | n + 1 => Fun.pok T._law_is_table.f sc__law_is_table rfl (shnW__law_is_table C n) fun cdv A' outer s H E hr hG =>
    have okn_self := okn__law_is_table T n
    (dss_cons (ds_if (dt_not (dt_val (de_call (ok__law_mixed T) rfl (fun _ _ _ _ h => ar1_len h) (hr.mono (lev_le (by decide))) hG rfl T._law_mixed.g T._law_mixed.f.kp T._law_mixed.b (takes_of rfl rfl rfl rfl) (da_cons (dv 1) da_nil)))) (dss_one (ds_ret de_bl)) dss_nil)
      (dss_cons (ds_if (dt_eq hr.units (do_of (dv 2)) (do_of de_int)) (dss_one (ds_ret (de_is (do_of (dv 3)) (do_of de_non)))) dss_nil)
      (dss_cons (ds_if (DW.dt (dw_or (dt_not (dt_val (de_isi "tuple" (by decide) rfl T.z_isinstance rfl T.z_tuple (by decide +kernel) (do_of (dv 3))))) (dw_or1 (dt_ne hr.units (do_of (de_len rfl T.z_len (do_of (dv 3)))) (do_of (de_len rfl T.z_len (do_of (dv 0)))))))) (dss_one (ds_ret de_bl)) dss_nil)
      (dss_cons (ds_for (passes_of rfl) rfl (di_zipG rfl T.z_zip (dv 0) (dv 3)) (dg_tup rfl (dgs_cons (dg_nm 4 sc__law_is_table.nd) (dgs_cons (dg_nm 5 sc__law_is_table.nd) dgs_nil))) (dss_cons (ds_if (DW.dt (dw_or (dt_not (dt_val (de_isi "tuple" (by decide) rfl T.z_isinstance rfl T.z_tuple (by decide +kernel) (do_of (dv 5))))) (dw_or1 (dt_ne hr.units (do_of (de_len rfl T.z_len (do_of (dv 5)))) (do_of de_int))))) (dss_one (ds_ret de_bl)) dss_nil)
      (dss_one (ds_if (dt_not (dt_val (de_call okn_self rfl (fun ds M q e h => lnW__law_is_table C n ds M q e h) (hr.mono (Nat.le_refl _)) hG rfl T._law_is_table.g T._law_is_table.f.kp T._law_is_table.b (takes_of rfl rfl rfl rfl) (da_cons (dv 0) (da_cons (de_call (ok__law_left T) rfl (fun _ _ _ _ h => ar3_len h) (hr.mono (lev_le (by decide))) hG rfl T._law_left.g T._law_left.f.kp T._law_left.b (takes_of rfl rfl rfl rfl) (da_cons (dv 1) (da_cons (dv 4) (da_cons (de_ix (do_of (dv 5)) (do_of de_int)) da_nil)))) (da_cons (de_sub (do_of (dv 2)) (do_of de_int)) (da_cons (de_ix (do_of (dv 5)) (do_of de_int)) da_nil))))))) (dss_one (ds_ret de_bl)) dss_nil))))
      (dss_one (ds_ret de_bl))))))
theorem ok__law_is_table (T : Txt K mg P C A) : FnG P w K mg base 11 A._law_is_table.1 A._law_is_table.2 ["_law_halves_here", "_law_groups_here", "_law_number_here", "_law_table"] (toSp K 4 (spW__law_is_table C)) := okn__law_is_table T 7
theorem okn_is_table (T : Txt K mg P C A) : ∀ n : Nat, FnG P w K mg base (7 + n) A.is_table.1 A.is_table.2 ["halves", "groups", "number", "thing"] (toSp K 4 (spn_is_table C n))
  | 0 => FnG.never
  | n + 1 => Fun.pok T.is_table.f sc_is_table rfl (shn_is_table C n) fun cdv A' outer s H E hr hG =>
    have okn_self := okn_is_table T n
    (dss_cons (ds_if (dt_not (dt_val (de_call (ok_is_mixed T) rfl (fun _ _ _ _ h => ar1_len h) (hr.mono (lev_le (by decide))) hG rfl T.is_mixed.g T.is_mixed.f.kp T.is_mixed.b (takes_of rfl rfl rfl rfl) (da_cons (dv 1) da_nil)))) (dss_one (ds_ret de_bl)) dss_nil)
      (dss_cons (ds_if (dt_eq hr.units (do_of (dv 2)) (do_of de_int)) (dss_one (ds_ret (de_is (do_of (dv 3)) (do_of de_non)))) dss_nil)
      (dss_cons (ds_if (DW.dt (dw_or (dt_not (dt_val (de_isi "tuple" (by decide) rfl T.z_isinstance rfl T.z_tuple (by decide +kernel) (do_of (dv 3))))) (dw_or1 (dt_ne hr.units (do_of (de_len rfl T.z_len (do_of (dv 3)))) (do_of (de_len rfl T.z_len (do_of (dv 0)))))))) (dss_one (ds_ret de_bl)) dss_nil)
      (dss_cons (ds_for (passes_of rfl) rfl (di_zipG rfl T.z_zip (dv 0) (dv 3)) (dg_tup rfl (dgs_cons (dg_nm 4 sc_is_table.nd) (dgs_cons (dg_nm 5 sc_is_table.nd) dgs_nil))) (dss_cons (ds_if (DW.dt (dw_or (dt_not (dt_val (de_isi "tuple" (by decide) rfl T.z_isinstance rfl T.z_tuple (by decide +kernel) (do_of (dv 5))))) (dw_or (dt_ne hr.units (do_of (de_len rfl T.z_len (do_of (dv 5)))) (do_of de_int)) (dw_or1 (dt_not (dt_val (de_call (ok_is_between T) rfl (fun _ _ _ _ h => ar3_len h) (hr.mono (lev_le (by decide))) hG rfl T.is_between.g T.is_between.f.kp T.is_between.b (takes_of rfl rfl rfl rfl) (da_cons (de_ix (do_of (dv 5)) (do_of de_int)) (da_cons de_int (da_cons (dv 4) da_nil)))))))))) (dss_one (ds_ret de_bl)) dss_nil)
      (dss_one (ds_if (dt_not (dt_val (de_call okn_self rfl (fun ds M q e h => ln_is_table C n ds M q e h) (hr.mono (Nat.le_refl _)) hG rfl T.is_table.g T.is_table.f.kp T.is_table.b (takes_of rfl rfl rfl rfl) (da_cons (dv 0) (da_cons (de_call (ok_kept T) rfl (fun _ _ _ _ h => ar3_len h) (hr.mono (lev_le (by decide))) hG rfl T.kept.g T.kept.f.kp T.kept.b (takes_of rfl rfl rfl rfl) (da_cons (dv 1) (da_cons (dv 4) (da_cons (de_ix (do_of (dv 5)) (do_of de_int)) da_nil)))) (da_cons (de_sub (do_of (dv 2)) (do_of de_int)) (da_cons (de_ix (do_of (dv 5)) (do_of de_int)) da_nil))))))) (dss_one (ds_ret de_bl)) dss_nil))))
      (dss_one (ds_ret de_bl))))))
theorem ok_is_table (T : Txt K mg P C A) : FnG P w K mg base 14 A.is_table.1 A.is_table.2 ["halves", "groups", "number", "thing"] (toSp K 4 (sp7_is_table C)) := okn_is_table T 7
theorem ok_is_open (T : Txt K mg P C A) : FnG P w K mg base 16 A.is_open.1 A.is_open.2 ["halves", "groups", "number", "thing"] (toSp K 4 (sp_is_open C)) :=
  Fun.pok T.is_open.f sc_is_open rfl (sh_is_open C) fun cdv A' outer s H E hr hG =>
    (dss_cons (ds_expr (de_call (ok_need_halves T) rfl (fun _ _ _ _ h => ar1_len h) (hr.mono (by decide)) hG rfl T.need_halves.g T.need_halves.f.kp T.need_halves.b (takes_of rfl rfl rfl rfl) (da_cons (dv 0) da_nil)))
      (dss_cons (ds_expr (de_call (ok_need_groups T) rfl (fun _ _ _ _ h => ar1_len h) (hr.mono (by decide)) hG rfl T.need_groups.g T.need_groups.f.kp T.need_groups.b (takes_of rfl rfl rfl rfl) (da_cons (dv 1) da_nil)))
      (dss_cons (ds_expr (de_call (ok_need_asked T) rfl (fun _ _ _ _ h => ar1_len h) (hr.mono (by decide)) hG rfl T.need_asked.g T.need_asked.f.kp T.need_asked.b (takes_of rfl rfl rfl rfl) (da_cons (dv 2) da_nil)))
      (dss_one (ds_ret (de_call (ok_is_table T) rfl (fun ds M q e h => ln_is_table C 7 ds M q e h) (hr.mono (by decide)) hG rfl T.is_table.g T.is_table.f.kp T.is_table.b (takes_of rfl rfl rfl rfl) (da_cons (de_l (dl_listc rfl T.z_list (do_of (dv 0)))) (da_cons (de_call (ok_copied T) rfl (fun _ _ _ _ h => ar1_len h) (hr.mono (by decide)) hG rfl T.copied.g T.copied.f.kp T.copied.b (takes_of rfl rfl rfl rfl) (da_cons (dv 1) da_nil)) (da_cons (dv 2) (da_cons (dv 3) da_nil))))))))))
theorem okv_open_value (T : Txt K mg P C A) (n : Nat) (okn_self : FnG P w K mg base (5 + 2 * n) A.is_open_for.1 A.is_open_for.2 ["halves", "groups", "number", "known"] (toSp K 4 (spn_is_open_for C n))) : FnG P w K mg base (5 + 2 * n + 1) A.open_value.1 A.open_value.2 ["halves", "groups", "half", "number", "known"] (toSp K 5 (spn_open_value C n)) :=
  Fun.pok T.open_value.f sc_open_value rfl (shn_open_value C n) fun cdv A' outer s H E hr hG =>
    (dss_cons (ds_for (passes_of rfl) rfl (di_any (de_call (ok_values_at T) rfl (fun _ _ _ _ h => ar2_len h) (hr.mono (lev_le (n := 2 * n) (by decide))) hG rfl T.values_at.g T.values_at.f.kp T.values_at.b (takes_of rfl rfl rfl rfl) (da_cons (dv 1) (da_cons (dv 2) da_nil)))) (dg_nm 5 sc_open_value.nd) (dss_one (ds_if (dt_val (de_call okn_self rfl (fun ds M q e h => ln_is_open_for C n ds M q e h) (hr.mono (Nat.le_refl _)) hG rfl T.is_open_for.g T.is_open_for.f.kp T.is_open_for.b (takes_of rfl rfl rfl rfl) (da_cons (dv 0) (da_cons (de_call (ok_kept T) rfl (fun _ _ _ _ h => ar3_len h) (hr.mono (lev_le (n := 2 * n) (by decide))) hG rfl T.kept.g T.kept.f.kp T.kept.b (takes_of rfl rfl rfl rfl) (da_cons (dv 1) (da_cons (dv 2) (da_cons (dv 5) da_nil)))) (da_cons (dv 3) (da_cons (dv 4) da_nil)))))) (dss_one (ds_ret (dv 5))) dss_nil)))
      (dss_one (ds_ret de_non)))
theorem okn_is_open_for (T : Txt K mg P C A) : ∀ n : Nat, FnG P w K mg base (5 + 2 * n) A.is_open_for.1 A.is_open_for.2 ["halves", "groups", "number", "known"] (toSp K 4 (spn_is_open_for C n))
  | 0 => FnG.never
  | n + 1 => Fun.pok T.is_open_for.f sc_is_open_for rfl (shn_is_open_for C n) fun cdv A' outer s H E hr hG =>
    have okn_self := okv_open_value T n (okn_is_open_for T n)
    (dss_cons (ds_if (DW.dt (dw_or (dt_not (dt_val (de_call (ok_is_mixed T) rfl (fun _ _ _ _ h => ar1_len h) (hr.mono (Nat.le_trans (lev_le (n := 2 * n) (by decide)) (Nat.le_succ _))) hG rfl T.is_mixed.g T.is_mixed.f.kp T.is_mixed.b (takes_of rfl rfl rfl rfl) (da_cons (dv 1) da_nil)))) (dw_or1 (dt_eq hr.units (do_of (dv 2)) (do_of de_int))))) (dss_one (ds_ret (de_call (ok_is_mixed T) rfl (fun _ _ _ _ h => ar1_len h) (hr.mono (Nat.le_trans (lev_le (n := 2 * n) (by decide)) (Nat.le_succ _))) hG rfl T.is_mixed.g T.is_mixed.f.kp T.is_mixed.b (takes_of rfl rfl rfl rfl) (da_cons (dv 1) da_nil)))) dss_nil)
      (dss_cons (ds_if (dt_notinN (hu9 hr) (do_of (de_tup (da_cons (dv 1) (da_cons (dv 2) da_nil)))) (do_of (dv 3))) (dss_cons (ds_setC 4 rfl sc_is_open_for.nd (sw_true rfl rfl rfl (by decide +kernel)) (own := [("half", 5)]) (di_any (dv 0)) (blkOk_by rfl) (fun _ _ _ _ _ => (dg_nm 5 sc_is_open_for.nd)) (fun _ _ _ _ _ => dts_nil) (fun _ _ _ _ _ => (de_call okn_self rfl (fun ds M q e h => ln_open_value C n ds M q e h) (hr.mono (Nat.le_refl _)) hG rfl T.open_value.g T.open_value.f.kp T.open_value.b takes0 (da_cons (dv 0) (da_cons (dv 1) (da_cons (dv 5) (da_cons (de_sub (do_of (dv 2)) (do_of de_int)) (da_cons (dv 3) da_nil))))))))
      (dss_one (ds_putN (hu9 hr) (de_all rfl rfl T.z_all (do_of (de_l (dl_comp rfl sc_is_open_for.nd (own := [("value", 6)]) (di_any (dv 4)) (blkOk_by rfl) (fun _ _ _ _ _ => (dg_nm 6 sc_is_open_for.nd)) (fun _ _ _ _ _ => dts_nil) (fun _ _ _ _ _ => (de_isnot (do_of (dv 6)) (do_of de_non))))))) (do_of (dv 3)) (do_of (de_tup (da_cons (dv 1) (da_cons (dv 2) da_nil))))))) dss_nil)
      (dss_one (ds_ret (de_getN (hu9 hr) (do_of (dv 3)) (do_of (de_tup (da_cons (dv 1) (da_cons (dv 2) da_nil)))))))))
theorem ok_is_open_for (T : Txt K mg P C A) : FnG P w K mg base 19 A.is_open_for.1 A.is_open_for.2 ["halves", "groups", "number", "known"] (toSp K 4 (sp_is_open_for C)) := okn_is_open_for T 7
theorem ok_open_value (T : Txt K mg P C A) : FnG P w K mg base 20 A.open_value.1 A.open_value.2 ["halves", "groups", "half", "number", "known"] (toSp K 5 (sp_open_value C)) := okv_open_value T 7 (okn_is_open_for T 7)
theorem okn__law_needed (T : Txt K mg P C A) : ∀ n : Nat, FnG P w K mg base (6 + n) A._law_needed.1 A._law_needed.2 ["_law_halves_here", "_law_groups_here", "_law_known"] (toSp K 3 (spn__law_needed C n))
  | 0 => FnG.never
  | n + 1 => Fun.pok T._law_needed.f sc__law_needed rfl (shn__law_needed C n) fun cdv A' outer s H E hr hG =>
    have okn_self := okn__law_needed T n
    (dss_cons (ds_if (dt_not (dt_val (de_call (ok__law_mixed T) rfl (fun _ _ _ _ h => ar1_len h) (hr.mono (lev_le (by decide))) hG rfl T._law_mixed.g T._law_mixed.f.kp T._law_mixed.b (takes_of rfl rfl rfl rfl) (da_cons (dv 1) da_nil)))) (dss_one (ds_ret de_int)) dss_nil)
      (dss_cons (ds_par 3 4 rfl sc__law_needed.nd (da_cons (de_repr hG hr.units rfl T.z_repr (do_of (dv 1))) (da_cons (de_l (dl_lst da_nil)) da_nil)))
      (dss_cons (ds_for (passes_of rfl) rfl (di_any (dv 1)) (dg_nm 5 sc__law_needed.nd) (dss_one (ds_set 4 sc__law_needed.nd (de_add (do_of (dv 4)) (do_of (de_l (dl_listc rfl T.z_list (do_of (dv 5)))))))))
      (dss_cons (ds_if (dt_notinDk (hu9 hr) (dv 3) (dv 2)) (dss_cons (ds_setO 6 sc__law_needed.nd (dl_lst (da_cons de_int da_nil)))
      (dss_cons (ds_for (passes_of rfl) rfl (di_any (dv 0)) (dg_nm 7 sc__law_needed.nd) (dss_cons (ds_set 8 sc__law_needed.nd (de_l (dl_sortSetL rfl rfl T.z_set rfl T.z_sorted (do_of (de_l (dl_comp rfl sc__law_needed.nd (own := [("_law_number_here", 10)]) (di_any (dv 4)) (blkOk_by rfl) (fun _ _ _ _ _ => (dg_nm 10 sc__law_needed.nd)) (fun _ _ _ _ _ => dts_nil) (fun _ _ _ _ _ => (de_call (ok__law_shown T) rfl (fun _ _ _ _ h => ar2_len h) (hr.mono (lev_le (by decide))) hG rfl T._law_shown.g T._law_shown.f.kp T._law_shown.b takes0 (da_cons (dv 7) (da_cons (dv 10) da_nil))))))))))
      (dss_one (ds_if (dt_gt (do_of (de_len rfl T.z_len (do_of (dv 8)))) (do_of de_int)) (dss_cons (ds_setC 9 rfl sc__law_needed.nd (sw_true rfl rfl rfl (by decide +kernel)) (own := [("_law_value", 11)]) (di_any (dv 8)) (blkOk_by rfl) (fun _ _ _ _ _ => (dg_nm 11 sc__law_needed.nd)) (fun _ _ _ _ _ => dts_nil) (fun _ _ _ _ _ => (de_call (ok__law_left T) rfl (fun _ _ _ _ h => ar3_len h) (hr.mono (lev_le (by decide))) hG rfl T._law_left.g T._law_left.f.kp T._law_left.b takes0 (da_cons (dv 1) (da_cons (dv 7) (da_cons (dv 11) da_nil))))))
      (dss_one (ds_app 6 (de_add (do_of de_int) (do_of (de_max rfl rfl T.z_max (do_of (de_l (dl_comp rfl sc__law_needed.nd (own := [("_law_one", 12)]) (di_any (dv 9)) (blkOk_by rfl) (fun _ _ _ _ _ => (dg_nm 12 sc__law_needed.nd)) (fun _ _ _ _ _ => dts_nil) (fun _ _ _ _ _ => (de_call okn_self rfl (fun ds M q e h => ln__law_needed C n ds M q e h) (hr.mono (Nat.le_refl _)) hG rfl T._law_needed.g T._law_needed.f.kp T._law_needed.b takes0 (da_cons (dv 0) (da_cons (dv 12) (da_cons (dv 2) da_nil)))))))))))))) dss_nil))))
      (dss_one (ds_putDk (hu9 hr) (de_min rfl rfl T.z_min (dn 6)) (dv 2) (dv 3))))) dss_nil)
      (dss_one (ds_ret (de_getDk (hu9 hr) (dv 2) (dv 3))))))))
theorem ok__law_needed (T : Txt K mg P C A) : FnG P w K mg base 20 A._law_needed.1 A._law_needed.2 ["_law_halves_here", "_law_groups_here", "_law_known"] (toSp K 3 (sp__law_needed C)) := okn__law_needed T 14
theorem okn_table_for (T : Txt K mg P C A) : ∀ n : Nat, FnG P w K mg base (21 + n) A.table_for.1 A.table_for.2 ["halves", "groups", "number", "known"] (toSp K 4 (spn_table_for C n))
  | 0 => FnG.never
  | n + 1 => Fun.pok T.table_for.f sc_table_for rfl (shn_table_for C n) fun cdv A' outer s H E hr hG =>
    have okn_self := okn_table_for T n
    (dss_cons (ds_if (dt_eq hr.units (do_of (dv 2)) (do_of de_int)) (dss_one (ds_ret de_non)) dss_nil)
      (dss_cons (ds_setO 4 sc_table_for.nd (dl_lst da_nil))
      (dss_cons (ds_for (passes_of rfl) rfl (di_any (dv 0)) (dg_nm 5 sc_table_for.nd) (dss_cons (ds_set 6 sc_table_for.nd (de_call (ok_open_value T) rfl (fun ds M q e h => ln_open_value C 7 ds M q e h) (hr.mono (lev_le (by decide))) hG rfl T.open_value.g T.open_value.f.kp T.open_value.b (takes_of rfl rfl rfl rfl) (da_cons (dv 0) (da_cons (dv 1) (da_cons (dv 5) (da_cons (de_sub (do_of (dv 2)) (do_of de_int)) (da_cons (dv 3) da_nil)))))))
      (dss_one (ds_app 4 (de_tup (da_cons (dv 6) (da_cons (de_call okn_self rfl (fun ds M q e h => ln_table_for C n ds M q e h) (hr.mono (Nat.le_refl _)) hG rfl T.table_for.g T.table_for.f.kp T.table_for.b (takes_of rfl rfl rfl rfl) (da_cons (dv 0) (da_cons (de_call (ok_kept T) rfl (fun _ _ _ _ h => ar3_len h) (hr.mono (lev_le (by decide))) hG rfl T.kept.g T.kept.f.kp T.kept.b (takes_of rfl rfl rfl rfl) (da_cons (dv 1) (da_cons (dv 5) (da_cons (dv 6) da_nil)))) (da_cons (de_sub (do_of (dv 2)) (do_of de_int)) (da_cons (dv 3) da_nil))))) da_nil)))))))
      (dss_one (ds_ret (de_tupc rfl T.z_tuple (dn 4)))))))
theorem ok_table_for (T : Txt K mg P C A) : FnG P w K mg base 28 A.table_for.1 A.table_for.2 ["halves", "groups", "number", "known"] (toSp K 4 (sp_table_for C)) := okn_table_for T 7
theorem ok_open_table (T : Txt K mg P C A) : FnG P w K mg base 30 A.open_table.1 A.open_table.2 ["halves", "groups", "number"] (toSp K 3 (sp_open_table C)) :=
  Fun.pok T.open_table.f sc_open_table rfl (sh_open_table C) fun cdv A' outer s H E hr hG =>
    (dss_cons (ds_expr (de_call (ok_need_halves T) rfl (fun _ _ _ _ h => ar1_len h) (hr.mono (by decide)) hG rfl T.need_halves.g T.need_halves.f.kp T.need_halves.b (takes_of rfl rfl rfl rfl) (da_cons (dv 0) da_nil)))
      (dss_cons (ds_expr (de_call (ok_need_groups T) rfl (fun _ _ _ _ h => ar1_len h) (hr.mono (by decide)) hG rfl T.need_groups.g T.need_groups.f.kp T.need_groups.b (takes_of rfl rfl rfl rfl) (da_cons (dv 1) da_nil)))
      (dss_cons (ds_expr (de_call (ok_need_asked T) rfl (fun _ _ _ _ h => ar1_len h) (hr.mono (by decide)) hG rfl T.need_asked.g T.need_asked.f.kp T.need_asked.b (takes_of rfl rfl rfl rfl) (da_cons (dv 2) da_nil)))
      (dss_cons (ds_par 3 4 rfl sc_open_table.nd (da_cons de_newN (da_cons (de_call (ok_copied T) rfl (fun _ _ _ _ h => ar1_len h) (hr.mono (by decide)) hG rfl T.copied.g T.copied.f.kp T.copied.b (takes_of rfl rfl rfl rfl) (da_cons (dv 1) da_nil)) da_nil)))
      (dss_one (ds_ret (de_ife (dt_val (de_call (ok_is_open_for T) rfl (fun ds M q e h => ln_is_open_for C 7 ds M q e h) (hr.mono (by decide)) hG rfl T.is_open_for.g T.is_open_for.f.kp T.is_open_for.b (takes_of rfl rfl rfl rfl) (da_cons (de_l (dl_listc rfl T.z_list (do_of (dv 0)))) (da_cons (dv 4) (da_cons (dv 2) (da_cons (dv 3) da_nil)))))) (de_call (ok_table_for T) rfl (fun ds M q e h => ln_table_for C 7 ds M q e h) (hr.mono (by decide)) hG rfl T.table_for.g T.table_for.f.kp T.table_for.b (takes_of rfl rfl rfl rfl) (da_cons (de_l (dl_listc rfl T.z_list (do_of (dv 0)))) (da_cons (dv 4) (da_cons (dv 2) (da_cons (dv 3) da_nil))))) de_non)))))))
theorem ok_law (T : Txt K mg P C A) : FnG P w K mg base 34 A.law.1 A.law.2 ["_law_script"] (toSp K 1 sp_law) :=
  Fun.pok T.law.f sc_law rfl (sh_law C) fun cdv A' outer s H E hr hG =>
    (dss_cons (ds_set 1 sc_law.nd (de_call (ok__law_begin T) rfl (fun _ _ _ _ h => ar1_len h) (hr.mono (by decide)) hG rfl T._law_begin.g T._law_begin.f.kp T._law_begin.b (takes_of rfl rfl rfl rfl) (da_cons (dv 0) da_nil)))
      (dss_cons (ds_for (passes_of rfl) rfl (di_r1 rfl T.z_range (de_add (do_of de_int) (do_of (de_min2 rfl rfl T.z_min (do_of (de_len rfl T.z_len (do_of (dv 0)))) (do_of de_int))))) (dg_nm 2 sc_law.nd) (dss_cons (ds_setC 3 rfl sc_law.nd (sw_true rfl rfl rfl (by decide +kernel)) (own := [("_law_k", 9)]) (di_r1 rfl T.z_range (de_add (do_of de_int) (do_of (de_call (ok__law_take T) rfl (fun _ _ _ _ h => ar2_len h) (hr.mono (by decide)) hG rfl T._law_take.g T._law_take.f.kp T._law_take.b (takes_of rfl rfl rfl rfl) (da_cons (dv 1) (da_cons de_int da_nil)))))) (blkOk_by rfl) (fun _ _ _ _ _ => (dg_nm 9 sc_law.nd)) (fun _ _ _ _ _ => dts_nil) (fun _ _ _ _ _ => (de_add (do_of de_int) (do_of (de_call (ok__law_take T) rfl (fun _ _ _ _ h => ar2_len h) (hr.mono (by decide)) hG rfl T._law_take.g T._law_take.f.kp T._law_take.b takes0 (da_cons (dv 1) (da_cons (de_call (ok__law_pick T) rfl (fun _ _ _ _ h => ar2_len h) (hr.mono (by decide)) hG rfl T._law_pick.g T._law_pick.f.kp T._law_pick.b takes0 (da_cons (dv 1) (da_cons (de_l (dl_lst (da_cons de_int (da_cons de_int (da_cons de_int da_nil))))) da_nil))) da_nil)))))))
      (dss_cons (ds_set 4 sc_law.nd (de_call (ok__law_groups T) rfl (fun _ _ _ _ h => ar2_len h) (hr.mono (by decide)) hG rfl T._law_groups.g T._law_groups.f.kp T._law_groups.b (takes_of rfl rfl rfl rfl) (da_cons (dv 1) (da_cons (de_call (ok__law_pick T) rfl (fun _ _ _ _ h => ar2_len h) (hr.mono (by decide)) hG rfl T._law_pick.g T._law_pick.f.kp T._law_pick.b (takes_of rfl rfl rfl rfl) (da_cons (dv 1) (da_cons (de_l (dl_lst (da_cons de_int (da_cons de_int (da_cons de_int da_nil))))) da_nil))) da_nil))))
      (dss_cons (ds_if (dt_lt (do_of (de_len rfl T.z_len (do_of (dv 4)))) (do_of de_int)) (dss_one ds_continue) dss_nil)
      (dss_cons (ds_set 5 sc_law.nd (de_call (ok__law_needed T) rfl (fun ds M q e h => ln__law_needed C 14 ds M q e h) (hr.mono (by decide)) hG rfl T._law_needed.g T._law_needed.f.kp T._law_needed.b (takes_of rfl rfl rfl rfl) (da_cons (dv 3) (da_cons (dv 4) (da_cons de_newDk da_nil)))))
      (dss_cons (ds_set 6 sc_law.nd (de_min2 rfl rfl T.z_min (do_of (dv 5)) (do_of (de_ix (do_of (de_l (dl_lst (da_cons de_int (da_cons de_int (da_cons de_int (da_cons de_int (da_cons de_int (da_cons de_int da_nil))))))))) (do_of (de_sub (do_of (de_len rfl T.z_len (do_of (dv 3)))) (do_of de_int)))))))
      (dss_one (ds_for (passes_of rfl) rfl (di_any (de_l (dl_lst (da_cons de_int (da_cons de_int (da_cons de_int (da_cons de_int (da_cons (de_max2 rfl rfl T.z_max (do_of de_int) (do_of (de_sub (do_of (dv 6)) (do_of de_int)))) (da_cons (dv 6) (da_cons (de_call (ok__law_take T) rfl (fun _ _ _ _ h => ar2_len h) (hr.mono (by decide)) hG rfl T._law_take.g T._law_take.f.kp T._law_take.b (takes_of rfl rfl rfl rfl) (da_cons (dv 1) (da_cons (de_add (do_of (dv 6)) (do_of de_int)) da_nil))) da_nil)))))))))) (dg_nm 7 sc_law.nd) (dss_cons (ds_set 8 sc_law.nd (de_call (ok_open_table T) rfl (fun _ _ _ _ h => ar3_len h) (hr.mono (by decide)) hG rfl T.open_table.g T.open_table.f.kp T.open_table.b (takes_of rfl rfl rfl rfl) (da_cons (dv 3) (da_cons (dv 4) (da_cons (dv 7) da_nil)))))
      (dss_cons (ds_if (DW.dt (dw_or (DW.dt (dw_and (dt_gt (do_of (dv 7)) (do_of de_int)) (dw_and1 (dt_ne hr.units (do_of (de_isnot (do_of (dv 8)) (do_of de_non))) (do_of (de_gt (do_of (dv 5)) (do_of (dv 7)))))))) (dw_or1 (DW.dt (dw_and (dt_eq hr.units (do_of (dv 7)) (do_of de_int)) (dw_and1 (dt_isnot (do_of (dv 8)) (do_of de_non)))))))) (dss_one (ds_ret de_bl)) dss_nil)
      (dss_cons (ds_if (DW.dt (dw_and (dt_gt (do_of (dv 5)) (do_of (dv 7))) (dw_and1 (dt_not (dt_val (de_call (ok__law_is_table T) rfl (fun ds M q e h => lnW__law_is_table C 7 ds M q e h) (hr.mono (by decide)) hG rfl T._law_is_table.g T._law_is_table.f.kp T._law_is_table.b (takes_of rfl rfl rfl rfl) (da_cons (dv 3) (da_cons (dv 4) (da_cons (dv 7) (da_cons (dv 8) da_nil)))))))))) (dss_one (ds_ret de_bl)) dss_nil)
      (dss_cons (ds_if (dt_neS (do_of (de_repr hG hr.units rfl T.z_repr (do_of (de_call (ok_is_open T) rfl (fun _ _ _ _ h => ar4_len h) (hr.mono (by decide)) hG rfl T.is_open.g T.is_open.f.kp T.is_open.b (takes_of rfl rfl rfl rfl) (da_cons (dv 3) (da_cons (dv 4) (da_cons (dv 7) (da_cons (dv 8) da_nil)))))))) (do_of (de_repr hG hr.units rfl T.z_repr (do_of (de_gt (do_of (dv 5)) (do_of (dv 7))))))) (dss_one (ds_ret de_bl)) dss_nil)
      (dss_one (ds_if (dt_neS (do_of (de_repr hG hr.units rfl T.z_repr (do_of (de_callK (ok_open_table T) rfl (fun _ _ _ _ h => ar3_len h) (hr.mono (by decide)) hG rfl T.open_table.g T.open_table.f.kp (kwb_of ["number", "groups", "halves"] [2, 1, 0] T.open_table.f fun _ _ _ _ _ _ ws hl => match ws, hl with | [], h => absurd h (by simp [pick]) | [_], h => absurd h (by simp [pick]) | [_, _], h => absurd h (by simp [pick]) | _ :: _ :: _ :: _, _ => rfl) (takes_of rfl rfl rfl rfl) (dk_cons (dv 7) (dk_cons (dv 4) (dk_cons (de_tupc rfl T.z_tuple (do_of (dv 3))) dk_nil))))))) (do_of (de_repr hG hr.units rfl T.z_repr (do_of (dv 8))))) (dss_one (ds_ret de_bl)) dss_nil))))))))))))))
      (dss_one (ds_ret de_bl))))
end
set_option maxHeartbeats 0 in
theorem all_mk {P : Program} {w : World} {K : PySem.W.Frag} {h : Heap} {mg : Str → Option Value} {fa : Addr} {f0 f1 f2 f3 f4 f5 f6 f7 f8 f9 f10 f11 f12 f13 f14 f15 f16 f17 f18 f19 f20 f21 f22 f23 f24 f25 f26 f27 f28 f29 f30 e_BadGroups e_BadNumber : Addr} (X : K.In h) (G : h.Ns mainGlobals mg) (hfa : mg "law" = some (.ref fa))
    {od0 an0 od1 an1 od2 an2 od3 an3 od4 an4 od5 an5 od6 an6 od7 an7 od8 an8 od9 an9 od10 an10 od11 an11 od12 an12 od13 an13 od14 an14 od15 an15 od16 an16 od17 an17 od18 an18 od19 an19 od20 an20 od21 an21 od22 an22 od23 an23 od24 an24 od25 an25 od26 an26 od27 an27 od28 an28 od29 an29 od30 an30 : Option Addr} {sl0 sl1 sl2 sl3 sl4 sl5 sl6 sl7 sl8 sl9 sl10 sl11 sl12 sl13 sl14 sl15 sl16 sl17 sl18 sl19 sl20 sl21 sl22 sl23 sl24 sl25 sl26 sl27 sl28 sl29 sl30 : Array (Option Value)} {oc0 kV0 dc0 pm0 cd0 ct0 oc1 kV1 dc1 pm1 cd1 ct1 oc2 kV2 dc2 pm2 cd2 ct2 oc3 kV3 dc3 pm3 cd3 ct3 oc4 kV4 dc4 pm4 cd4 ct4 oc5 kV5 dc5 pm5 cd5 ct5 oc6 kV6 dc6 pm6 cd6 ct6 oc7 kV7 dc7 pm7 cd7 ct7 oc8 kV8 dc8 pm8 cd8 ct8 oc9 kV9 dc9 pm9 cd9 ct9 oc10 kV10 dc10 pm10 cd10 ct10 oc11 kV11 dc11 pm11 cd11 ct11 oc12 kV12 dc12 pm12 cd12 ct12 oc13 kV13 dc13 pm13 cd13 ct13 oc14 kV14 dc14 pm14 cd14 ct14 oc15 kV15 dc15 pm15 cd15 ct15 oc16 kV16 dc16 pm16 cd16 ct16 oc17 kV17 dc17 pm17 cd17 ct17 oc18 kV18 dc18 pm18 cd18 ct18 oc19 kV19 dc19 pm19 cd19 ct19 oc20 kV20 dc20 pm20 cd20 ct20 oc21 kV21 dc21 pm21 cd21 ct21 oc22 kV22 dc22 pm22 cd22 ct22 oc23 kV23 dc23 pm23 cd23 ct23 oc24 kV24 dc24 pm24 cd24 ct24 oc25 kV25 dc25 pm25 cd25 ct25 oc26 kV26 dc26 pm26 cd26 ct26 oc27 kV27 dc27 pm27 cd27 ct27 oc28 kV28 dc28 pm28 cd28 ct28 oc29 kV29 dc29 pm29 cd29 ct29 oc30 kV30 dc30 pm30 cd30 ct30 : Value}
    {fiBadGroups cdaBadGroups ccBadGroups NCBadGroups : Addr} {nmBadGroups qnBadGroups filBadGroups : Str} {bsBadGroups bmBadGroups subBadGroups : List Value} {snBadGroups : List Str} {abBadGroups : Bool} {colBadGroups : Option Bool} {ddBadGroups odiBadGroups aniBadGroups cddBadGroups cldBadGroups : Option Addr} {k0BadGroups k1BadGroups k2BadGroups k3BadGroups k5BadGroups : Option Value} {ociBadGroups kViBadGroups dciBadGroups pmiBadGroups ctiBadGroups cclBadGroups clBadGroups : Value} {sliBadGroups ccsBadGroups cslBadGroups : Array (Option Value)} {vsBadGroups : Array Value} {tfBadGroups : Tok}
    (gx_BadGroups : PySem.W.nsIn K mainGlobals "BadGroups" = some (some (.ref e_BadGroups)))
    (gx_BadNumber : PySem.W.nsIn K mainGlobals "BadNumber" = some (some (.ref e_BadNumber)))
    (xc_BadGroups : K.lookup e_BadGroups = some (excClassObj nmBadGroups qnBadGroups e_BadGroups NCBadGroups bsBadGroups bmBadGroups true snBadGroups subBadGroups abBadGroups colBadGroups ddBadGroups k0BadGroups k1BadGroups k2BadGroups k3BadGroups k5BadGroups "ValueError.__new__"))
    (xr_BadGroups : HandSPX.refsVE bmBadGroups = true)
    (xs_BadGroups : PySem.W.findIn K (.ref e_BadGroups) "__setattr__" = some (some (.builtin "object.__setattr__")))
    (xb_BadGroups : PySem.W.subIn K (.ref e_BadGroups) (.type "BaseException") = some true)
    (xt_BadGroups : PySem.W.typeIn K (.ref e_BadGroups) = some (.type "type"))
    (xk_BadGroups : PySem.W.keepIn K (.ref e_BadGroups) = true)
    (xi_BadGroups : PySem.W.findIn K (.ref e_BadGroups) "__init__" = some (some (.ref fiBadGroups)))
    (xf_BadGroups : PySem.W.typeIn K (.ref fiBadGroups) = some (.type "function"))
    (xl_BadGroups : K.lookup fiBadGroups = some ⟨ociBadGroups, odiBadGroups, .func (PySem.W.ksFn "__init__" "BadGroups.__init__" (defArgs s_BadGroups___init__) (defBody s_BadGroups___init__) (defScope s_BadGroups___init__) .none kViBadGroups dciBadGroups pmiBadGroups aniBadGroups (.ref cdaBadGroups) ctiBadGroups ccBadGroups), sliBadGroups⟩)
    (xo_BadGroups : PySem.W.codeIn K (.ref cdaBadGroups) "BadGroups.__init__" = true)
    (xd_BadGroups : K.lookup cdaBadGroups = some ⟨cclBadGroups, cddBadGroups, .fields vsBadGroups, ccsBadGroups⟩)
    (xv_BadGroups : vsBadGroups[2]? = some (.str filBadGroups tfBadGroups))
    (xp_BadGroups : ((P.main.file : Str) == filBadGroups) = true)
    (xe_BadGroups : K.lookup ccBadGroups = some ⟨clBadGroups, cldBadGroups, .cell (some (.ref e_BadGroups)), cslBadGroups⟩)
    (xu_BadGroups : PySem.W.ks_superIn K e_BadGroups e_BadGroups "__init__" = some (some (.builtin "ValueError.__init__")))
    (xw_BadGroups : PySem.W.subIn K (.ref e_BadGroups) (.type "ValueError") = some true)
    (xm_BadGroups : PySem.W.mroIn K e_BadGroups (.ref e_BadGroups) = some true)
    (xn_BadGroups : PySem.W.findIn K (.ref e_BadGroups) "at" = some none)
    (x_opq : PySem.W.nsIn K PySem.cStatics "thirdparty.any" = some none)
    (x_top : (P.main.scope.names.lookup ("super" : Str)).isSome = false)
    (xx_BadNumber : PySem.W.excIn K e_BadNumber [.type "ValueError", .type "Exception", .type "BaseException", .type "object"] "ValueError.__new__" = true)
    (kx_BadNumber : PySem.W.keepIn K (.ref e_BadNumber) = true)
    (bx_BadNumber : PySem.W.subIn K (.ref e_BadNumber) (.type "BaseException") = some true)
    (tx_BadNumber : PySem.W.typeIn K (.ref e_BadNumber) = some (.type "type"))
    (z_abs : PySem.W.nsIn K mainGlobals "abs" = some none)
    (z_all : PySem.W.nsIn K mainGlobals "all" = some none)
    (z_any : PySem.W.nsIn K mainGlobals "any" = some none)
    (z_bool : PySem.W.nsIn K mainGlobals "bool" = some none)
    (z_divmod : PySem.W.nsIn K mainGlobals "divmod" = some none)
    (z_enumerate : PySem.W.nsIn K mainGlobals "enumerate" = some none)
    (z_int : PySem.W.nsIn K mainGlobals "int" = some none)
    (z_isinstance : PySem.W.nsIn K mainGlobals "isinstance" = some none)
    (z_len : PySem.W.nsIn K mainGlobals "len" = some none)
    (z_list : PySem.W.nsIn K mainGlobals "list" = some none)
    (z_max : PySem.W.nsIn K mainGlobals "max" = some none)
    (z_min : PySem.W.nsIn K mainGlobals "min" = some none)
    (z_range : PySem.W.nsIn K mainGlobals "range" = some none)
    (z_repr : PySem.W.nsIn K mainGlobals "repr" = some none)
    (z_set : PySem.W.nsIn K mainGlobals "set" = some none)
    (z_sorted : PySem.W.nsIn K mainGlobals "sorted" = some none)
    (z_super : PySem.W.nsIn K mainGlobals "super" = some none)
    (z_tuple : PySem.W.nsIn K mainGlobals "tuple" = some none)
    (z_zip : PySem.W.nsIn K mainGlobals "zip" = some none)
    (c_GREATEST_HALF : ∃ t, PySem.W.nsIn K mainGlobals "GREATEST_HALF" = some (some (.int 1000 t)))
    (c_GREATEST_NUMBER : ∃ t, PySem.W.nsIn K mainGlobals "GREATEST_NUMBER" = some (some (.int 5040 t)))
    (c_MOST_ASKED : ∃ t, PySem.W.nsIn K mainGlobals "MOST_ASKED" = some (some (.int 6 t)))
    (c_MOST_GROUPS : ∃ t, PySem.W.nsIn K mainGlobals "MOST_GROUPS" = some (some (.int 4 t)))
    (c_MOST_HALVES : ∃ t, PySem.W.nsIn K mainGlobals "MOST_HALVES" = some (some (.int 6 t)))
    (c_MOST_NUMBERS : ∃ t, PySem.W.nsIn K mainGlobals "MOST_NUMBERS" = some (some (.int 12 t)))
    (a0 : PySem.W.nsIn K mainGlobals "is_integer" = some (some (.ref f0)))
    (l0 : K.lookup f0 = some ⟨oc0, od0, .func (PySem.W.fnOf "is_integer" "is_integer" (defArgs s_is_integer) (defBody s_is_integer) (defScope s_is_integer) .none kV0 dc0 pm0 an0 cd0 ct0), sl0⟩)
    (c0 : PySem.W.codeIn K cd0 "is_integer" = true)
    (k0 : PySem.W.keepIn K (.ref f0) = true)
    (a1 : PySem.W.nsIn K mainGlobals "divisor" = some (some (.ref f1)))
    (l1 : K.lookup f1 = some ⟨oc1, od1, .func (PySem.W.fnOf "divisor" "divisor" (defArgs s_divisor) (defBody s_divisor) (defScope s_divisor) .none kV1 dc1 pm1 an1 cd1 ct1), sl1⟩)
    (c1 : PySem.W.codeIn K cd1 "divisor" = true)
    (k1 : PySem.W.keepIn K (.ref f1) = true)
    (a2 : PySem.W.nsIn K mainGlobals "copied" = some (some (.ref f2)))
    (l2 : K.lookup f2 = some ⟨oc2, od2, .func (PySem.W.fnOf "copied" "copied" (defArgs s_copied) (defBody s_copied) (defScope s_copied) .none kV2 dc2 pm2 an2 cd2 ct2), sl2⟩)
    (c2 : PySem.W.codeIn K cd2 "copied" = true)
    (k2 : PySem.W.keepIn K (.ref f2) = true)
    (a3 : PySem.W.nsIn K mainGlobals "is_mixed" = some (some (.ref f3)))
    (l3 : K.lookup f3 = some ⟨oc3, od3, .func (PySem.W.fnOf "is_mixed" "is_mixed" (defArgs s_is_mixed) (defBody s_is_mixed) (defScope s_is_mixed) .none kV3 dc3 pm3 an3 cd3 ct3), sl3⟩)
    (c3 : PySem.W.codeIn K cd3 "is_mixed" = true)
    (k3 : PySem.W.keepIn K (.ref f3) = true)
    (a4 : PySem.W.nsIn K mainGlobals "_law_begin" = some (some (.ref f4)))
    (l4 : K.lookup f4 = some ⟨oc4, od4, .func (PySem.W.fnOf "_law_begin" "_law_begin" (defArgs s__law_begin) (defBody s__law_begin) (defScope s__law_begin) .none kV4 dc4 pm4 an4 cd4 ct4), sl4⟩)
    (c4 : PySem.W.codeIn K cd4 "_law_begin" = true)
    (k4 : PySem.W.keepIn K (.ref f4) = true)
    (a5 : PySem.W.nsIn K mainGlobals "_law_take" = some (some (.ref f5)))
    (l5 : K.lookup f5 = some ⟨oc5, od5, .func (PySem.W.fnOf "_law_take" "_law_take" (defArgs s__law_take) (defBody s__law_take) (defScope s__law_take) .none kV5 dc5 pm5 an5 cd5 ct5), sl5⟩)
    (c5 : PySem.W.codeIn K cd5 "_law_take" = true)
    (k5 : PySem.W.keepIn K (.ref f5) = true)
    (a6 : PySem.W.nsIn K mainGlobals "_law_shown" = some (some (.ref f6)))
    (l6 : K.lookup f6 = some ⟨oc6, od6, .func (PySem.W.fnOf "_law_shown" "_law_shown" (defArgs s__law_shown) (defBody s__law_shown) (defScope s__law_shown) .none kV6 dc6 pm6 an6 cd6 ct6), sl6⟩)
    (c6 : PySem.W.codeIn K cd6 "_law_shown" = true)
    (k6 : PySem.W.keepIn K (.ref f6) = true)
    (a7 : PySem.W.nsIn K mainGlobals "_law_mixed" = some (some (.ref f7)))
    (l7 : K.lookup f7 = some ⟨oc7, od7, .func (PySem.W.fnOf "_law_mixed" "_law_mixed" (defArgs s__law_mixed) (defBody s__law_mixed) (defScope s__law_mixed) .none kV7 dc7 pm7 an7 cd7 ct7), sl7⟩)
    (c7 : PySem.W.codeIn K cd7 "_law_mixed" = true)
    (k7 : PySem.W.keepIn K (.ref f7) = true)
    (a8 : PySem.W.nsIn K mainGlobals "is_between" = some (some (.ref f8)))
    (l8 : K.lookup f8 = some ⟨oc8, od8, .func (PySem.W.fnOf "is_between" "is_between" (defArgs s_is_between) (defBody s_is_between) (defScope s_is_between) .none kV8 dc8 pm8 an8 cd8 ct8), sl8⟩)
    (c8 : PySem.W.codeIn K cd8 "is_between" = true)
    (k8 : PySem.W.keepIn K (.ref f8) = true)
    (a9 : PySem.W.nsIn K mainGlobals "lowest" = some (some (.ref f9)))
    (l9 : K.lookup f9 = some ⟨oc9, od9, .func (PySem.W.fnOf "lowest" "lowest" (defArgs s_lowest) (defBody s_lowest) (defScope s_lowest) .none kV9 dc9 pm9 an9 cd9 ct9), sl9⟩)
    (c9 : PySem.W.codeIn K cd9 "lowest" = true)
    (k9 : PySem.W.keepIn K (.ref f9) = true)
    (a10 : PySem.W.nsIn K mainGlobals "_law_pick" = some (some (.ref f10)))
    (l10 : K.lookup f10 = some ⟨oc10, od10, .func (PySem.W.fnOf "_law_pick" "_law_pick" (defArgs s__law_pick) (defBody s__law_pick) (defScope s__law_pick) .none kV10 dc10 pm10 an10 cd10 ct10), sl10⟩)
    (c10 : PySem.W.codeIn K cd10 "_law_pick" = true)
    (k10 : PySem.W.keepIn K (.ref f10) = true)
    (a11 : PySem.W.nsIn K mainGlobals "_law_left" = some (some (.ref f11)))
    (l11 : K.lookup f11 = some ⟨oc11, od11, .func (PySem.W.fnOf "_law_left" "_law_left" (defArgs s__law_left) (defBody s__law_left) (defScope s__law_left) .none kV11 dc11 pm11 an11 cd11 ct11), sl11⟩)
    (c11 : PySem.W.codeIn K cd11 "_law_left" = true)
    (k11 : PySem.W.keepIn K (.ref f11) = true)
    (a12 : PySem.W.nsIn K mainGlobals "is_half" = some (some (.ref f12)))
    (l12 : K.lookup f12 = some ⟨oc12, od12, .func (PySem.W.fnOf "is_half" "is_half" (defArgs s_is_half) (defBody s_is_half) (defScope s_is_half) .none kV12 dc12 pm12 an12 cd12 ct12), sl12⟩)
    (c12 : PySem.W.codeIn K cd12 "is_half" = true)
    (k12 : PySem.W.keepIn K (.ref f12) = true)
    (a13 : PySem.W.nsIn K mainGlobals "folded" = some (some (.ref f13)))
    (l13 : K.lookup f13 = some ⟨oc13, od13, .func (PySem.W.fnOf "folded" "folded" (defArgs s_folded) (defBody s_folded) (defScope s_folded) .none kV13 dc13 pm13 an13 cd13 ct13), sl13⟩)
    (c13 : PySem.W.codeIn K cd13 "folded" = true)
    (k13 : PySem.W.keepIn K (.ref f13) = true)
    (a14 : PySem.W.nsIn K mainGlobals "is_group" = some (some (.ref f14)))
    (l14 : K.lookup f14 = some ⟨oc14, od14, .func (PySem.W.fnOf "is_group" "is_group" (defArgs s_is_group) (defBody s_is_group) (defScope s_is_group) .none kV14 dc14 pm14 an14 cd14 ct14), sl14⟩)
    (c14 : PySem.W.codeIn K cd14 "is_group" = true)
    (k14 : PySem.W.keepIn K (.ref f14) = true)
    (a15 : PySem.W.nsIn K mainGlobals "need_asked" = some (some (.ref f15)))
    (l15 : K.lookup f15 = some ⟨oc15, od15, .func (PySem.W.fnOf "need_asked" "need_asked" (defArgs s_need_asked) (defBody s_need_asked) (defScope s_need_asked) .none kV15 dc15 pm15 an15 cd15 ct15), sl15⟩)
    (c15 : PySem.W.codeIn K cd15 "need_asked" = true)
    (k15 : PySem.W.keepIn K (.ref f15) = true)
    (a16 : PySem.W.nsIn K mainGlobals "_law_groups" = some (some (.ref f16)))
    (l16 : K.lookup f16 = some ⟨oc16, od16, .func (PySem.W.fnOf "_law_groups" "_law_groups" (defArgs s__law_groups) (defBody s__law_groups) (defScope s__law_groups) .none kV16 dc16 pm16 an16 cd16 ct16), sl16⟩)
    (c16 : PySem.W.codeIn K cd16 "_law_groups" = true)
    (k16 : PySem.W.keepIn K (.ref f16) = true)
    (a17 : PySem.W.nsIn K mainGlobals "need_halves" = some (some (.ref f17)))
    (l17 : K.lookup f17 = some ⟨oc17, od17, .func (PySem.W.fnOf "need_halves" "need_halves" (defArgs s_need_halves) (defBody s_need_halves) (defScope s_need_halves) .none kV17 dc17 pm17 an17 cd17 ct17), sl17⟩)
    (c17 : PySem.W.codeIn K cd17 "need_halves" = true)
    (k17 : PySem.W.keepIn K (.ref f17) = true)
    (a18 : PySem.W.nsIn K mainGlobals "need_groups" = some (some (.ref f18)))
    (l18 : K.lookup f18 = some ⟨oc18, od18, .func (PySem.W.fnOf "need_groups" "need_groups" (defArgs s_need_groups) (defBody s_need_groups) (defScope s_need_groups) .none kV18 dc18 pm18 an18 cd18 ct18), sl18⟩)
    (c18 : PySem.W.codeIn K cd18 "need_groups" = true)
    (k18 : PySem.W.keepIn K (.ref f18) = true)
    (a19 : PySem.W.nsIn K mainGlobals "look_at" = some (some (.ref f19)))
    (l19 : K.lookup f19 = some ⟨oc19, od19, .func (PySem.W.fnOf "look_at" "look_at" (defArgs s_look_at) (defBody s_look_at) (defScope s_look_at) .none kV19 dc19 pm19 an19 cd19 ct19), sl19⟩)
    (c19 : PySem.W.codeIn K cd19 "look_at" = true)
    (k19 : PySem.W.keepIn K (.ref f19) = true)
    (a20 : PySem.W.nsIn K mainGlobals "values_at" = some (some (.ref f20)))
    (l20 : K.lookup f20 = some ⟨oc20, od20, .func (PySem.W.fnOf "values_at" "values_at" (defArgs s_values_at) (defBody s_values_at) (defScope s_values_at) .none kV20 dc20 pm20 an20 cd20 ct20), sl20⟩)
    (c20 : PySem.W.codeIn K cd20 "values_at" = true)
    (k20 : PySem.W.keepIn K (.ref f20) = true)
    (a21 : PySem.W.nsIn K mainGlobals "kept" = some (some (.ref f21)))
    (l21 : K.lookup f21 = some ⟨oc21, od21, .func (PySem.W.fnOf "kept" "kept" (defArgs s_kept) (defBody s_kept) (defScope s_kept) .none kV21 dc21 pm21 an21 cd21 ct21), sl21⟩)
    (c21 : PySem.W.codeIn K cd21 "kept" = true)
    (k21 : PySem.W.keepIn K (.ref f21) = true)
    (a22 : PySem.W.nsIn K mainGlobals "_law_is_table" = some (some (.ref f22)))
    (l22 : K.lookup f22 = some ⟨oc22, od22, .func (PySem.W.fnOf "_law_is_table" "_law_is_table" (defArgs s__law_is_table) (defBody s__law_is_table) (defScope s__law_is_table) .none kV22 dc22 pm22 an22 cd22 ct22), sl22⟩)
    (c22 : PySem.W.codeIn K cd22 "_law_is_table" = true)
    (k22 : PySem.W.keepIn K (.ref f22) = true)
    (a23 : PySem.W.nsIn K mainGlobals "is_table" = some (some (.ref f23)))
    (l23 : K.lookup f23 = some ⟨oc23, od23, .func (PySem.W.fnOf "is_table" "is_table" (defArgs s_is_table) (defBody s_is_table) (defScope s_is_table) .none kV23 dc23 pm23 an23 cd23 ct23), sl23⟩)
    (c23 : PySem.W.codeIn K cd23 "is_table" = true)
    (k23 : PySem.W.keepIn K (.ref f23) = true)
    (a24 : PySem.W.nsIn K mainGlobals "is_open" = some (some (.ref f24)))
    (l24 : K.lookup f24 = some ⟨oc24, od24, .func (PySem.W.fnOf "is_open" "is_open" (defArgs s_is_open) (defBody s_is_open) (defScope s_is_open) .none kV24 dc24 pm24 an24 cd24 ct24), sl24⟩)
    (c24 : PySem.W.codeIn K cd24 "is_open" = true)
    (k24 : PySem.W.keepIn K (.ref f24) = true)
    (a25 : PySem.W.nsIn K mainGlobals "open_value" = some (some (.ref f25)))
    (l25 : K.lookup f25 = some ⟨oc25, od25, .func (PySem.W.fnOf "open_value" "open_value" (defArgs s_open_value) (defBody s_open_value) (defScope s_open_value) .none kV25 dc25 pm25 an25 cd25 ct25), sl25⟩)
    (c25 : PySem.W.codeIn K cd25 "open_value" = true)
    (k25 : PySem.W.keepIn K (.ref f25) = true)
    (a26 : PySem.W.nsIn K mainGlobals "is_open_for" = some (some (.ref f26)))
    (l26 : K.lookup f26 = some ⟨oc26, od26, .func (PySem.W.fnOf "is_open_for" "is_open_for" (defArgs s_is_open_for) (defBody s_is_open_for) (defScope s_is_open_for) .none kV26 dc26 pm26 an26 cd26 ct26), sl26⟩)
    (c26 : PySem.W.codeIn K cd26 "is_open_for" = true)
    (k26 : PySem.W.keepIn K (.ref f26) = true)
    (a27 : PySem.W.nsIn K mainGlobals "_law_needed" = some (some (.ref f27)))
    (l27 : K.lookup f27 = some ⟨oc27, od27, .func (PySem.W.fnOf "_law_needed" "_law_needed" (defArgs s__law_needed) (defBody s__law_needed) (defScope s__law_needed) .none kV27 dc27 pm27 an27 cd27 ct27), sl27⟩)
    (c27 : PySem.W.codeIn K cd27 "_law_needed" = true)
    (k27 : PySem.W.keepIn K (.ref f27) = true)
    (a28 : PySem.W.nsIn K mainGlobals "table_for" = some (some (.ref f28)))
    (l28 : K.lookup f28 = some ⟨oc28, od28, .func (PySem.W.fnOf "table_for" "table_for" (defArgs s_table_for) (defBody s_table_for) (defScope s_table_for) .none kV28 dc28 pm28 an28 cd28 ct28), sl28⟩)
    (c28 : PySem.W.codeIn K cd28 "table_for" = true)
    (k28 : PySem.W.keepIn K (.ref f28) = true)
    (a29 : PySem.W.nsIn K mainGlobals "open_table" = some (some (.ref f29)))
    (l29 : K.lookup f29 = some ⟨oc29, od29, .func (PySem.W.fnOf "open_table" "open_table" (defArgs s_open_table) (defBody s_open_table) (defScope s_open_table) .none kV29 dc29 pm29 an29 cd29 ct29), sl29⟩)
    (c29 : PySem.W.codeIn K cd29 "open_table" = true)
    (k29 : PySem.W.keepIn K (.ref f29) = true)
    (a30 : PySem.W.nsIn K mainGlobals "law" = some (some (.ref f30)))
    (l30 : K.lookup f30 = some ⟨oc30, od30, .func (PySem.W.fnOf "law" "law" (defArgs s_law) (defBody s_law) (defScope s_law) .none kV30 dc30 pm30 an30 cd30 ct30), sl30⟩)
    (c30 : PySem.W.codeIn K cd30 "law" = true)
    (k30 : PySem.W.keepIn K (.ref f30) = true)
    : ∃ fd : FuncData, (∀ (s : Shared) (u : Value), BindsTo s fd ⟨[u], []⟩ [("_law_script", u)]) ∧ ∀ base : Heap, K.In base → base.Ns mainGlobals mg → FnG P w K mg base 34 fa fd ["_law_script"] (toSp K 1 sp_law) := by
  have e := hfa.symm.trans (PySem.W.mg_of X G a30)
  cases e
  have F0 := fun_mk (st := s_is_integer) l0 c0 k0
  have D0 : DefT K mg "is_integer" s_is_integer ["thing"] f0 _ := ⟨F0, F0.binds (ps := ["thing"]) fun _ _ _ _ _ _ us hl => match us, hl with | [_], _ => rfl, PySem.W.mg_of X G a0⟩
  have F1 := fun_mk (st := s_divisor) l1 c1 k1
  have D1 : DefT K mg "divisor" s_divisor ["one", "other"] f1 _ := ⟨F1, F1.binds (ps := ["one", "other"]) fun _ _ _ _ _ _ us hl => match us, hl with | [_, _], _ => rfl, PySem.W.mg_of X G a1⟩
  have F2 := fun_mk (st := s_copied) l2 c2 k2
  have D2 : DefT K mg "copied" s_copied ["groups"] f2 _ := ⟨F2, F2.binds (ps := ["groups"]) fun _ _ _ _ _ _ us hl => match us, hl with | [_], _ => rfl, PySem.W.mg_of X G a2⟩
  have F3 := fun_mk (st := s_is_mixed) l3 c3 k3
  have D3 : DefT K mg "is_mixed" s_is_mixed ["groups"] f3 _ := ⟨F3, F3.binds (ps := ["groups"]) fun _ _ _ _ _ _ us hl => match us, hl with | [_], _ => rfl, PySem.W.mg_of X G a3⟩
  have F4 := fun_mk (st := s__law_begin) l4 c4 k4
  have D4 : DefT K mg "_law_begin" s__law_begin ["_law_script"] f4 _ := ⟨F4, F4.binds (ps := ["_law_script"]) fun _ _ _ _ _ _ us hl => match us, hl with | [_], _ => rfl, PySem.W.mg_of X G a4⟩
  have F5 := fun_mk (st := s__law_take) l5 c5 k5
  have D5 : DefT K mg "_law_take" s__law_take ["_law_draw", "_law_size"] f5 _ := ⟨F5, F5.binds (ps := ["_law_draw", "_law_size"]) fun _ _ _ _ _ _ us hl => match us, hl with | [_, _], _ => rfl, PySem.W.mg_of X G a5⟩
  have F6 := fun_mk (st := s__law_shown) l6 c6 k6
  have D6 : DefT K mg "_law_shown" s__law_shown ["_law_half", "_law_number_here"] f6 _ := ⟨F6, F6.binds (ps := ["_law_half", "_law_number_here"]) fun _ _ _ _ _ _ us hl => match us, hl with | [_, _], _ => rfl, PySem.W.mg_of X G a6⟩
  have F7 := fun_mk (st := s__law_mixed) l7 c7 k7
  have D7 : DefT K mg "_law_mixed" s__law_mixed ["_law_groups_here"] f7 _ := ⟨F7, F7.binds (ps := ["_law_groups_here"]) fun _ _ _ _ _ _ us hl => match us, hl with | [_], _ => rfl, PySem.W.mg_of X G a7⟩
  have F8 := fun_mk (st := s_is_between) l8 c8 k8
  have D8 : DefT K mg "is_between" s_is_between ["thing", "low", "high"] f8 _ := ⟨F8, F8.binds (ps := ["thing", "low", "high"]) fun _ _ _ _ _ _ us hl => match us, hl with | [_, _, _], _ => rfl, PySem.W.mg_of X G a8⟩
  have F9 := fun_mk (st := s_lowest) l9 c9 k9
  have D9 : DefT K mg "lowest" s_lowest ["top", "bottom"] f9 _ := ⟨F9, F9.binds (ps := ["top", "bottom"]) fun _ _ _ _ _ _ us hl => match us, hl with | [_, _], _ => rfl, PySem.W.mg_of X G a9⟩
  have F10 := fun_mk (st := s__law_pick) l10 c10 k10
  have D10 : DefT K mg "_law_pick" s__law_pick ["_law_draw", "_law_some"] f10 _ := ⟨F10, F10.binds (ps := ["_law_draw", "_law_some"]) fun _ _ _ _ _ _ us hl => match us, hl with | [_, _], _ => rfl, PySem.W.mg_of X G a10⟩
  have F11 := fun_mk (st := s__law_left) l11 c11 k11
  have D11 : DefT K mg "_law_left" s__law_left ["_law_groups_here", "_law_half", "_law_value"] f11 _ := ⟨F11, F11.binds (ps := ["_law_groups_here", "_law_half", "_law_value"]) fun _ _ _ _ _ _ us hl => match us, hl with | [_, _, _], _ => rfl, PySem.W.mg_of X G a11⟩
  have F12 := fun_mk (st := s_is_half) l12 c12 k12
  have D12 : DefT K mg "is_half" s_is_half ["thing"] f12 _ := ⟨F12, F12.binds (ps := ["thing"]) fun _ _ _ _ _ _ us hl => match us, hl with | [_], _ => rfl, PySem.W.mg_of X G a12⟩
  have F13 := fun_mk (st := s_folded) l13 c13 k13
  have D13 : DefT K mg "folded" s_folded ["half", "top", "bottom"] f13 _ := ⟨F13, F13.binds (ps := ["half", "top", "bottom"]) fun _ _ _ _ _ _ us hl => match us, hl with | [_, _, _], _ => rfl, PySem.W.mg_of X G a13⟩
  have F14 := fun_mk (st := s_is_group) l14 c14 k14
  have D14 : DefT K mg "is_group" s_is_group ["thing"] f14 _ := ⟨F14, F14.binds (ps := ["thing"]) fun _ _ _ _ _ _ us hl => match us, hl with | [_], _ => rfl, PySem.W.mg_of X G a14⟩
  have F15 := fun_mk (st := s_need_asked) l15 c15 k15
  have D15 : DefT K mg "need_asked" s_need_asked ["number"] f15 _ := ⟨F15, F15.binds (ps := ["number"]) fun _ _ _ _ _ _ us hl => match us, hl with | [_], _ => rfl, PySem.W.mg_of X G a15⟩
  have F16 := fun_mk (st := s__law_groups) l16 c16 k16
  have D16 : DefT K mg "_law_groups" s__law_groups ["_law_draw", "_law_roof"] f16 _ := ⟨F16, F16.binds (ps := ["_law_draw", "_law_roof"]) fun _ _ _ _ _ _ us hl => match us, hl with | [_, _], _ => rfl, PySem.W.mg_of X G a16⟩
  have F17 := fun_mk (st := s_need_halves) l17 c17 k17
  have D17 : DefT K mg "need_halves" s_need_halves ["halves"] f17 _ := ⟨F17, F17.binds (ps := ["halves"]) fun _ _ _ _ _ _ us hl => match us, hl with | [_], _ => rfl, PySem.W.mg_of X G a17⟩
  have F18 := fun_mk (st := s_need_groups) l18 c18 k18
  have D18 : DefT K mg "need_groups" s_need_groups ["groups"] f18 _ := ⟨F18, F18.binds (ps := ["groups"]) fun _ _ _ _ _ _ us hl => match us, hl with | [_], _ => rfl, PySem.W.mg_of X G a18⟩
  have F19 := fun_mk (st := s_look_at) l19 c19 k19
  have D19 : DefT K mg "look_at" s_look_at ["half", "number"] f19 _ := ⟨F19, F19.binds (ps := ["half", "number"]) fun _ _ _ _ _ _ us hl => match us, hl with | [_, _], _ => rfl, PySem.W.mg_of X G a19⟩
  have F20 := fun_mk (st := s_values_at) l20 c20 k20
  have D20 : DefT K mg "values_at" s_values_at ["groups", "half"] f20 _ := ⟨F20, F20.binds (ps := ["groups", "half"]) fun _ _ _ _ _ _ us hl => match us, hl with | [_, _], _ => rfl, PySem.W.mg_of X G a20⟩
  have F21 := fun_mk (st := s_kept) l21 c21 k21
  have D21 : DefT K mg "kept" s_kept ["groups", "half", "value"] f21 _ := ⟨F21, F21.binds (ps := ["groups", "half", "value"]) fun _ _ _ _ _ _ us hl => match us, hl with | [_, _, _], _ => rfl, PySem.W.mg_of X G a21⟩
  have F22 := fun_mk (st := s__law_is_table) l22 c22 k22
  have D22 : DefT K mg "_law_is_table" s__law_is_table ["_law_halves_here", "_law_groups_here", "_law_number_here", "_law_table"] f22 _ := ⟨F22, F22.binds (ps := ["_law_halves_here", "_law_groups_here", "_law_number_here", "_law_table"]) fun _ _ _ _ _ _ us hl => match us, hl with | [_, _, _, _], _ => rfl, PySem.W.mg_of X G a22⟩
  have F23 := fun_mk (st := s_is_table) l23 c23 k23
  have D23 : DefT K mg "is_table" s_is_table ["halves", "groups", "number", "thing"] f23 _ := ⟨F23, F23.binds (ps := ["halves", "groups", "number", "thing"]) fun _ _ _ _ _ _ us hl => match us, hl with | [_, _, _, _], _ => rfl, PySem.W.mg_of X G a23⟩
  have F24 := fun_mk (st := s_is_open) l24 c24 k24
  have D24 : DefT K mg "is_open" s_is_open ["halves", "groups", "number", "thing"] f24 _ := ⟨F24, F24.binds (ps := ["halves", "groups", "number", "thing"]) fun _ _ _ _ _ _ us hl => match us, hl with | [_, _, _, _], _ => rfl, PySem.W.mg_of X G a24⟩
  have F25 := fun_mk (st := s_open_value) l25 c25 k25
  have D25 : DefT K mg "open_value" s_open_value ["halves", "groups", "half", "number", "known"] f25 _ := ⟨F25, F25.binds (ps := ["halves", "groups", "half", "number", "known"]) fun _ _ _ _ _ _ us hl => match us, hl with | [_, _, _, _, _], _ => rfl, PySem.W.mg_of X G a25⟩
  have F26 := fun_mk (st := s_is_open_for) l26 c26 k26
  have D26 : DefT K mg "is_open_for" s_is_open_for ["halves", "groups", "number", "known"] f26 _ := ⟨F26, F26.binds (ps := ["halves", "groups", "number", "known"]) fun _ _ _ _ _ _ us hl => match us, hl with | [_, _, _, _], _ => rfl, PySem.W.mg_of X G a26⟩
  have F27 := fun_mk (st := s__law_needed) l27 c27 k27
  have D27 : DefT K mg "_law_needed" s__law_needed ["_law_halves_here", "_law_groups_here", "_law_known"] f27 _ := ⟨F27, F27.binds (ps := ["_law_halves_here", "_law_groups_here", "_law_known"]) fun _ _ _ _ _ _ us hl => match us, hl with | [_, _, _], _ => rfl, PySem.W.mg_of X G a27⟩
  have F28 := fun_mk (st := s_table_for) l28 c28 k28
  have D28 : DefT K mg "table_for" s_table_for ["halves", "groups", "number", "known"] f28 _ := ⟨F28, F28.binds (ps := ["halves", "groups", "number", "known"]) fun _ _ _ _ _ _ us hl => match us, hl with | [_, _, _, _], _ => rfl, PySem.W.mg_of X G a28⟩
  have F29 := fun_mk (st := s_open_table) l29 c29 k29
  have D29 : DefT K mg "open_table" s_open_table ["halves", "groups", "number"] f29 _ := ⟨F29, F29.binds (ps := ["halves", "groups", "number"]) fun _ _ _ _ _ _ us hl => match us, hl with | [_, _, _], _ => rfl, PySem.W.mg_of X G a29⟩
  have F30 := fun_mk (st := s_law) l30 c30 k30
  have D30 : DefT K mg "law" s_law ["_law_script"] fa _ := ⟨F30, F30.binds (ps := ["_law_script"]) fun _ _ _ _ _ _ us hl => match us, hl with | [_], _ => rfl, PySem.W.mg_of X G a30⟩
  have T : Txt K mg P ⟨0, 0, e_BadNumber, 0, 0, 0, 0, 0, 0, 0, 0, 0, 0, e_BadGroups, 0, 0, 0, 0, 0, 0, 0, 0, 0, 0, 0, (fun _ => 0), w⟩ ⟨(f0, (PySem.W.fnOf "is_integer" "is_integer" (defArgs s_is_integer) (defBody s_is_integer) (defScope s_is_integer) .none kV0 dc0 pm0 an0 cd0 ct0)), (f1, (PySem.W.fnOf "divisor" "divisor" (defArgs s_divisor) (defBody s_divisor) (defScope s_divisor) .none kV1 dc1 pm1 an1 cd1 ct1)), (f2, (PySem.W.fnOf "copied" "copied" (defArgs s_copied) (defBody s_copied) (defScope s_copied) .none kV2 dc2 pm2 an2 cd2 ct2)), (f3, (PySem.W.fnOf "is_mixed" "is_mixed" (defArgs s_is_mixed) (defBody s_is_mixed) (defScope s_is_mixed) .none kV3 dc3 pm3 an3 cd3 ct3)), (f4, (PySem.W.fnOf "_law_begin" "_law_begin" (defArgs s__law_begin) (defBody s__law_begin) (defScope s__law_begin) .none kV4 dc4 pm4 an4 cd4 ct4)), (f5, (PySem.W.fnOf "_law_take" "_law_take" (defArgs s__law_take) (defBody s__law_take) (defScope s__law_take) .none kV5 dc5 pm5 an5 cd5 ct5)), (f6, (PySem.W.fnOf "_law_shown" "_law_shown" (defArgs s__law_shown) (defBody s__law_shown) (defScope s__law_shown) .none kV6 dc6 pm6 an6 cd6 ct6)), (f7, (PySem.W.fnOf "_law_mixed" "_law_mixed" (defArgs s__law_mixed) (defBody s__law_mixed) (defScope s__law_mixed) .none kV7 dc7 pm7 an7 cd7 ct7)), (f8, (PySem.W.fnOf "is_between" "is_between" (defArgs s_is_between) (defBody s_is_between) (defScope s_is_between) .none kV8 dc8 pm8 an8 cd8 ct8)), (f9, (PySem.W.fnOf "lowest" "lowest" (defArgs s_lowest) (defBody s_lowest) (defScope s_lowest) .none kV9 dc9 pm9 an9 cd9 ct9)), (f10, (PySem.W.fnOf "_law_pick" "_law_pick" (defArgs s__law_pick) (defBody s__law_pick) (defScope s__law_pick) .none kV10 dc10 pm10 an10 cd10 ct10)), (f11, (PySem.W.fnOf "_law_left" "_law_left" (defArgs s__law_left) (defBody s__law_left) (defScope s__law_left) .none kV11 dc11 pm11 an11 cd11 ct11)), (f12, (PySem.W.fnOf "is_half" "is_half" (defArgs s_is_half) (defBody s_is_half) (defScope s_is_half) .none kV12 dc12 pm12 an12 cd12 ct12)), (f13, (PySem.W.fnOf "folded" "folded" (defArgs s_folded) (defBody s_folded) (defScope s_folded) .none kV13 dc13 pm13 an13 cd13 ct13)), (f14, (PySem.W.fnOf "is_group" "is_group" (defArgs s_is_group) (defBody s_is_group) (defScope s_is_group) .none kV14 dc14 pm14 an14 cd14 ct14)), (f15, (PySem.W.fnOf "need_asked" "need_asked" (defArgs s_need_asked) (defBody s_need_asked) (defScope s_need_asked) .none kV15 dc15 pm15 an15 cd15 ct15)), (f16, (PySem.W.fnOf "_law_groups" "_law_groups" (defArgs s__law_groups) (defBody s__law_groups) (defScope s__law_groups) .none kV16 dc16 pm16 an16 cd16 ct16)), (f17, (PySem.W.fnOf "need_halves" "need_halves" (defArgs s_need_halves) (defBody s_need_halves) (defScope s_need_halves) .none kV17 dc17 pm17 an17 cd17 ct17)), (f18, (PySem.W.fnOf "need_groups" "need_groups" (defArgs s_need_groups) (defBody s_need_groups) (defScope s_need_groups) .none kV18 dc18 pm18 an18 cd18 ct18)), (f19, (PySem.W.fnOf "look_at" "look_at" (defArgs s_look_at) (defBody s_look_at) (defScope s_look_at) .none kV19 dc19 pm19 an19 cd19 ct19)), (f20, (PySem.W.fnOf "values_at" "values_at" (defArgs s_values_at) (defBody s_values_at) (defScope s_values_at) .none kV20 dc20 pm20 an20 cd20 ct20)), (f21, (PySem.W.fnOf "kept" "kept" (defArgs s_kept) (defBody s_kept) (defScope s_kept) .none kV21 dc21 pm21 an21 cd21 ct21)), (f22, (PySem.W.fnOf "_law_is_table" "_law_is_table" (defArgs s__law_is_table) (defBody s__law_is_table) (defScope s__law_is_table) .none kV22 dc22 pm22 an22 cd22 ct22)), (f23, (PySem.W.fnOf "is_table" "is_table" (defArgs s_is_table) (defBody s_is_table) (defScope s_is_table) .none kV23 dc23 pm23 an23 cd23 ct23)), (f24, (PySem.W.fnOf "is_open" "is_open" (defArgs s_is_open) (defBody s_is_open) (defScope s_is_open) .none kV24 dc24 pm24 an24 cd24 ct24)), (f25, (PySem.W.fnOf "open_value" "open_value" (defArgs s_open_value) (defBody s_open_value) (defScope s_open_value) .none kV25 dc25 pm25 an25 cd25 ct25)), (f26, (PySem.W.fnOf "is_open_for" "is_open_for" (defArgs s_is_open_for) (defBody s_is_open_for) (defScope s_is_open_for) .none kV26 dc26 pm26 an26 cd26 ct26)), (f27, (PySem.W.fnOf "_law_needed" "_law_needed" (defArgs s__law_needed) (defBody s__law_needed) (defScope s__law_needed) .none kV27 dc27 pm27 an27 cd27 ct27)), (f28, (PySem.W.fnOf "table_for" "table_for" (defArgs s_table_for) (defBody s_table_for) (defScope s_table_for) .none kV28 dc28 pm28 an28 cd28 ct28)), (f29, (PySem.W.fnOf "open_table" "open_table" (defArgs s_open_table) (defBody s_open_table) (defScope s_open_table) .none kV29 dc29 pm29 an29 cd29 ct29)), (fa, (PySem.W.fnOf "law" "law" (defArgs s_law) (defBody s_law) (defScope s_law) .none kV30 dc30 pm30 an30 cd30 ct30))⟩ := ⟨PySem.W.mg_none_of X G z_abs, PySem.W.mg_none_of X G z_all, PySem.W.mg_none_of X G z_any, PySem.W.mg_none_of X G z_bool, PySem.W.mg_none_of X G z_divmod, PySem.W.mg_none_of X G z_enumerate, PySem.W.mg_none_of X G z_int, PySem.W.mg_none_of X G z_isinstance, PySem.W.mg_none_of X G z_len, PySem.W.mg_none_of X G z_list, PySem.W.mg_none_of X G z_max, PySem.W.mg_none_of X G z_min, PySem.W.mg_none_of X G z_range, PySem.W.mg_none_of X G z_repr, PySem.W.mg_none_of X G z_set, PySem.W.mg_none_of X G z_sorted, PySem.W.mg_none_of X G z_super, PySem.W.mg_none_of X G z_tuple, PySem.W.mg_none_of X G z_zip, c_GREATEST_HALF.elim fun t h => ⟨t, PySem.W.mg_of X G h⟩, c_GREATEST_NUMBER.elim fun t h => ⟨t, PySem.W.mg_of X G h⟩, c_MOST_ASKED.elim fun t h => ⟨t, PySem.W.mg_of X G h⟩, c_MOST_GROUPS.elim fun t h => ⟨t, PySem.W.mg_of X G h⟩, c_MOST_HALVES.elim fun t h => ⟨t, PySem.W.mg_of X G h⟩, c_MOST_NUMBERS.elim fun t h => ⟨t, PySem.W.mg_of X G h⟩, ⟨PySem.W.mg_of X G gx_BadNumber, xx_BadNumber, kx_BadNumber, bx_BadNumber, tx_BadNumber⟩, ⟨PySem.W.mg_of X G gx_BadGroups, PySem.W.mg_none_of X G z_super, ⟨⟨nmBadGroups, qnBadGroups, NCBadGroups, bsBadGroups, bmBadGroups, snBadGroups, subBadGroups, abBadGroups, colBadGroups, ddBadGroups, k0BadGroups, k1BadGroups, k2BadGroups, k3BadGroups, k5BadGroups, xc_BadGroups, xr_BadGroups⟩, xs_BadGroups, xb_BadGroups, xt_BadGroups, xk_BadGroups⟩, fiBadGroups, _, initA_mk iw_BadGroups xl_BadGroups xo_BadGroups xd_BadGroups xv_BadGroups xp_BadGroups xe_BadGroups xu_BadGroups xw_BadGroups xm_BadGroups x_opq xn_BadGroups x_top, xi_BadGroups, xf_BadGroups⟩, D0, D1, D2, D3, D4, D5, D6, D7, D8, D9, D10, D11, D12, D13, D14, D15, D16, D17, D18, D19, D20, D21, D22, D23, D24, D25, D26, D27, D28, D29, D30⟩
  exact ⟨(PySem.W.fnOf "law" "law" (defArgs s_law) (defBody s_law) (defScope s_law) .none kV30 dc30 pm30 an30 cd30 ct30), fun s u => .of_eq rfl, fun base _ _ => ok_law T⟩
end Px
open PySem PySem.W PySem.Calls PyProof.Rows
set_option maxHeartbeats 0
theorem PySem.Challenge.cw_flashfolds_k62_open_tables_against_fewer_holds : PySem.Challenge.rw_flashfolds_k62_open_tables_against_fewer.Holds := by
  w_on; o_law
  refine Px.head_k (r := (OpenLaw.row PySem.Challenge.rw_flashfolds_k62_open_tables_against_fewer)) (q := view (OpenLaw.row PySem.Challenge.rw_flashfolds_k62_open_tables_against_fewer).prog [45]) (K := Px.pre.heap_1) (as := Px.asOf Px.pre.heap_1) (e0 := Px.as_ok) rfl (M := 50000) (loose := (Px.topNames (OpenLaw.row PySem.Challenge.rw_flashfolds_k62_open_tables_against_fewer).prog)) (d := HandSHeadRun.topDef (OpenLaw.row PySem.Challenge.rw_flashfolds_k62_open_tables_against_fewer).prog 45) (kwd := []) (by kernel_rfl) (fun s => by kernel_rfl) (Px.run_split "special-get-raises" fun b w => match b with | false => Px.run_ab (Px.runA_false w) (Px.runB_false w) | true => Px.run_ab (Px.runA_true w) (Px.runB_true w)) (by kernel_rfl) (by kernel_rfl) (by kernel_rfl) (by rfl) (by first | assumption | decide +kernel) (by decide +kernel) ⟨rfl, rfl, rfl, rfl, rfl, by decide +kernel⟩ ?hw ?hc
  (case hw => w_witness2)
  k_fill
  refine Px.walk_g (l := PySem.Challenge.rw_flashfolds_k62_open_tables_against_fewer) (k := 34) (x := "_law_script") rfl (by kernel_rfl) ⟨rfl, by decide, by decide⟩ (fun w h Y => PySem.W.kIn_of Y) ?G
  case G =>
    intro w mg fa h KX G hmg0
    have hmg : mg ("law" : PySem.Str) = some (.ref fa) := by
      have e : (HandSHeadRun.topDef (OpenLaw.row PySem.Challenge.rw_flashfolds_k62_open_tables_against_fewer).prog 45).name = ("law" : PySem.Str) := by kernel_rfl
      rw [← e]
      exact hmg0
    refine' Px.all_mk KX G hmg ?gx_BadGroups ?gx_BadNumber ?xc_BadGroups ?xr_BadGroups ?xs_BadGroups ?xb_BadGroups ?xt_BadGroups ?xk_BadGroups ?xi_BadGroups ?xf_BadGroups ?xl_BadGroups ?xo_BadGroups ?xd_BadGroups ?xv_BadGroups ?xp_BadGroups ?xe_BadGroups ?xu_BadGroups ?xw_BadGroups ?xm_BadGroups ?xn_BadGroups ?x_opq ?x_top ?xx_BadNumber ?kx_BadNumber ?bx_BadNumber ?tx_BadNumber ?z_abs ?z_all ?z_any ?z_bool ?z_divmod ?z_enumerate ?z_int ?z_isinstance ?z_len ?z_list ?z_max ?z_min ?z_range ?z_repr ?z_set ?z_sorted ?z_super ?z_tuple ?z_zip ?c_GREATEST_HALF ?c_GREATEST_NUMBER ?c_MOST_ASKED ?c_MOST_GROUPS ?c_MOST_HALVES ?c_MOST_NUMBERS ?a0 ?l0 ?c0 ?k0 ?a1 ?l1 ?c1 ?k1 ?a2 ?l2 ?c2 ?k2 ?a3 ?l3 ?c3 ?k3 ?a4 ?l4 ?c4 ?k4 ?a5 ?l5 ?c5 ?k5 ?a6 ?l6 ?c6 ?k6 ?a7 ?l7 ?c7 ?k7 ?a8 ?l8 ?c8 ?k8 ?a9 ?l9 ?c9 ?k9 ?a10 ?l10 ?c10 ?k10 ?a11 ?l11 ?c11 ?k11 ?a12 ?l12 ?c12 ?k12 ?a13 ?l13 ?c13 ?k13 ?a14 ?l14 ?c14 ?k14 ?a15 ?l15 ?c15 ?k15 ?a16 ?l16 ?c16 ?k16 ?a17 ?l17 ?c17 ?k17 ?a18 ?l18 ?c18 ?k18 ?a19 ?l19 ?c19 ?k19 ?a20 ?l20 ?c20 ?k20 ?a21 ?l21 ?c21 ?k21 ?a22 ?l22 ?c22 ?k22 ?a23 ?l23 ?c23 ?k23 ?a24 ?l24 ?c24 ?k24 ?a25 ?l25 ?c25 ?k25 ?a26 ?l26 ?c26 ?k26 ?a27 ?l27 ?c27 ?k27 ?a28 ?l28 ?c28 ?k28 ?a29 ?l29 ?c29 ?k29 ?a30 ?l30 ?c30 ?k30
    (case gx_BadGroups => k_is)
    (case gx_BadNumber => k_is)
    (case xc_BadGroups => k_is)
    (case xr_BadGroups => decide +kernel)
    (case xs_BadGroups => k_is)
    (case xb_BadGroups => k_is)
    (case xt_BadGroups => k_is)
    (case xk_BadGroups => k_is)
    (case xi_BadGroups => k_is)
    (case xf_BadGroups => k_is)
    (case xl_BadGroups => k_is)
    (case xo_BadGroups => k_is)
    (case xd_BadGroups => k_is)
    (case xv_BadGroups => exact rfl)
    (case xp_BadGroups => first | exact rfl | decide +kernel)
    (case xe_BadGroups => k_is)
    (case xu_BadGroups => kernel_rfl)
    (case xw_BadGroups => k_is)
    (case xm_BadGroups => kernel_rfl)
    (case xn_BadGroups => k_is)
    (case x_opq => k_is)
    (case x_top => first | exact rfl | decide +kernel)
    (case xx_BadNumber => k_exc)
    (case kx_BadNumber => k_is)
    (case bx_BadNumber => k_is)
    (case tx_BadNumber => k_is)
    (case z_abs => k_is)
    (case z_all => k_is)
    (case z_any => k_is)
    (case z_bool => k_is)
    (case z_divmod => k_is)
    (case z_enumerate => k_is)
    (case z_int => k_is)
    (case z_isinstance => k_is)
    (case z_len => k_is)
    (case z_list => k_is)
    (case z_max => k_is)
    (case z_min => k_is)
    (case z_range => k_is)
    (case z_repr => k_is)
    (case z_set => k_is)
    (case z_sorted => k_is)
    (case z_super => k_is)
    (case z_tuple => k_is)
    (case z_zip => k_is)
    (case c_GREATEST_HALF => exact ⟨_, by k_is⟩)
    (case c_GREATEST_NUMBER => exact ⟨_, by k_is⟩)
    (case c_MOST_ASKED => exact ⟨_, by k_is⟩)
    (case c_MOST_GROUPS => exact ⟨_, by k_is⟩)
    (case c_MOST_HALVES => exact ⟨_, by k_is⟩)
    (case c_MOST_NUMBERS => exact ⟨_, by k_is⟩)
    (case a0 => k_is)
    (case l0 => k_is)
    (case c0 => k_is)
    (case k0 => k_is)
    (case a1 => k_is)
    (case l1 => k_is)
    (case c1 => k_is)
    (case k1 => k_is)
    (case a2 => k_is)
    (case l2 => k_is)
    (case c2 => k_is)
    (case k2 => k_is)
    (case a3 => k_is)
    (case l3 => k_is)
    (case c3 => k_is)
    (case k3 => k_is)
    (case a4 => k_is)
    (case l4 => k_is)
    (case c4 => k_is)
    (case k4 => k_is)
    (case a5 => k_is)
    (case l5 => k_is)
    (case c5 => k_is)
    (case k5 => k_is)
    (case a6 => k_is)
    (case l6 => k_is)
    (case c6 => k_is)
    (case k6 => k_is)
    (case a7 => k_is)
    (case l7 => k_is)
    (case c7 => k_is)
    (case k7 => k_is)
    (case a8 => k_is)
    (case l8 => k_is)
    (case c8 => k_is)
    (case k8 => k_is)
    (case a9 => k_is)
    (case l9 => k_is)
    (case c9 => k_is)
    (case k9 => k_is)
    (case a10 => k_is)
    (case l10 => k_is)
    (case c10 => k_is)
    (case k10 => k_is)
    (case a11 => k_is)
    (case l11 => k_is)
    (case c11 => k_is)
    (case k11 => k_is)
    (case a12 => k_is)
    (case l12 => k_is)
    (case c12 => k_is)
    (case k12 => k_is)
    (case a13 => k_is)
    (case l13 => k_is)
    (case c13 => k_is)
    (case k13 => k_is)
    (case a14 => k_is)
    (case l14 => k_is)
    (case c14 => k_is)
    (case k14 => k_is)
    (case a15 => k_is)
    (case l15 => k_is)
    (case c15 => k_is)
    (case k15 => k_is)
    (case a16 => k_is)
    (case l16 => k_is)
    (case c16 => k_is)
    (case k16 => k_is)
    (case a17 => k_is)
    (case l17 => k_is)
    (case c17 => k_is)
    (case k17 => k_is)
    (case a18 => k_is)
    (case l18 => k_is)
    (case c18 => k_is)
    (case k18 => k_is)
    (case a19 => k_is)
    (case l19 => k_is)
    (case c19 => k_is)
    (case k19 => k_is)
    (case a20 => k_is)
    (case l20 => k_is)
    (case c20 => k_is)
    (case k20 => k_is)
    (case a21 => k_is)
    (case l21 => k_is)
    (case c21 => k_is)
    (case k21 => k_is)
    (case a22 => k_is)
    (case l22 => k_is)
    (case c22 => k_is)
    (case k22 => k_is)
    (case a23 => k_is)
    (case l23 => k_is)
    (case c23 => k_is)
    (case k23 => k_is)
    (case a24 => k_is)
    (case l24 => k_is)
    (case c24 => k_is)
    (case k24 => k_is)
    (case a25 => k_is)
    (case l25 => k_is)
    (case c25 => k_is)
    (case k25 => k_is)
    (case a26 => k_is)
    (case l26 => k_is)
    (case c26 => k_is)
    (case k26 => k_is)
    (case a27 => k_is)
    (case l27 => k_is)
    (case c27 => k_is)
    (case k27 => k_is)
    (case a28 => k_is)
    (case l28 => k_is)
    (case c28 => k_is)
    (case k28 => k_is)
    (case a29 => k_is)
    (case l29 => k_is)
    (case c29 => k_is)
    (case k29 => k_is)
    (case a30 => k_is)
    (case l30 => k_is)
    (case c30 => k_is)
    (case k30 => k_is)
