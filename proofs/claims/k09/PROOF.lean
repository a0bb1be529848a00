import PyProof.Rows.All
import Wide.All
import OpenK.AllK
import Wide.FinOn
import HandS.ForMost
import HandS.ForExc
import HandS.Wide
import HandS.TupAny
import HandS.Defaults
import HandS.Style
import HandS.Flow
import HandS.IsInst
import HandS.ExcInit
import KE.KSuper
import KE.KExcSuper
import PyProof.AutoSeq1
import HandS.Conv
import HandS.FStr
import HandS.Text
import HandS.Star
import KE.KOpsOwn
import KE.KFmtOwn
import HandS.RaiseMore
import HandS.OwnEq
import HandS.HeadHook1
import HandS.HeadHook2
import KE.KStateDown
import Wide.Once
import HandS.Head0
import HandS.Head1
import HandS.Head2
import HandS.HeadEnd
import KE.KIntText
import PySem.Challenge.RW_deedtrees_k09_whole_nodes_exchanged
set_option Elab.async false
set_option linter.all false
set_option maxRecDepth 100000
set_option maxHeartbeats 0
/-! S1: plain values W, the store, results; how they stand for V and the abstract heap. -/
namespace Sm
open PySem PySem.Spec PyProof.Rows L2

/-- a value as plain data: what never changes any more is written out, what may change is a place of the store -/
inductive W where
  | non | bl (b : Bool) | int (i : Int) | str (x : Str)
  | tup (xs : List W) | lst (xs : List W) | dct (ks vs : List W)
  | obj (C : Str) (ns : List Str) (vs : List W)
  /-- a tree: its attributes but nodes, its parts -/
  | tree (C : Str) (ns : List Str) (vs : List W) (kids : List W)
  | ref (i : Nat) | ty (n : String) | cls (C : Str)

/-- a thing that may change -/
inductive MO where
  | lst (xs : List W) | dK (ks vs : List W) | dT (ks vs : List W) | ins (C : Str) (ns : List Str) (vs : List W)
  /-- a tree in the making, with its nodes -/
  | tin (C : Str) (ns : List Str) (vs : List W) (kids : List W)

inductive Sl where
  | un | val (w : W) | own (o : MO)

abbrev Sto := List MO
structure Ex where
  cls : Str
  ns : List Str
  vs : List W

inductive Res (α : Type) where
  | ok (a : α) (m : Sto) | exc (x : Ex) (m : Sto) | bad

abbrev M (α : Type) := Sto → Res α
def ret {α : Type} (a : α) : M α := fun m => .ok a m
def bad {α : Type} : M α := fun _ => .bad
def bnd {α β : Type} (x : M α) (f : α → M β) : M β := fun m => match x m with
  | .ok a m' => f a m'
  | .exc x m' => .exc x m'
  | .bad => .bad
abbrev SS := List Sl
/-- an expression's worth; a list's of them -/
abbrev Fe := SS → M W
abbrev Fas := SS → M (List W)
/-- a statement's -/
inductive Out where
  | nx (σ : SS) | rt (w : W) | bk (σ : SS) | ct (σ : SS) | ex (x : Ex) (σ : SS)
abbrev Fs := SS → M Out

/-! ### what stands for what -/
structure Cn where
  K : PySem.W.Frag
  cl : Str → Addr
/-- a key of a dict -/
def keyOf : W → Option Key
  | .int i => some (.inl i)
  | .str x => some (.inr x)
  | _ => none
def keysOf : List W → Option (List Key)
  | [] => some []
  | w :: r => match keyOf w, keysOf r with
    | some k, some ks => some (k :: ks)
    | _, _ => none
def tkeyOf : W → Option (List Key)
  | .tup xs => keysOf xs
  | _ => none
/-- the attributes, that of the nodes hidden -/
def offN (gs : List (Str × V)) : List (Str × V) := gs.map fun p => if p.1 = ("nodes" : Str) then (p.1, V.non) else p

mutual
def RW (c : Cn) (F : Hp) (ρ : List Addr) : W → V → Prop
  | .non, v => v = .non
  | .bl b, v => v = .bl b
  | .int i, v => v = .int i
  | .str x, v => v = .str x
  | .tup ws, v => ∃ a vs, v = .ref a ∧ SqT c.K F a vs ∧ RWs c F ρ ws vs
  | .lst ws, v => ∃ a vs, v = .ref a ∧ Rd F a (.lst vs) ∧ RWs c F ρ ws vs
  | .dct ks ws, v => ∃ a o, v = .ref a ∧ ((∃ kvs, F a = some (.frz o (.dK kvs)) ∧ ks.map keyOf = kvs.map (fun p => some p.1) ∧ RWs c F ρ ws (kvs.map (·.2))) ∨ ∃ kvs, F a = some (.frz o (.dT kvs)) ∧ ks.map tkeyOf = kvs.map (fun p => some p.1) ∧ RWs c F ρ ws (kvs.map (·.2)))
  | .obj C ns ws, v => ∃ a dx gs, v = .ref a ∧ F a = some (.ins (c.cl C) dx gs) ∧ gs.map (·.1) = ns ∧ RWs c F ρ ws (gs.map (·.2))
  | .tree C ns ws kids, v => ∃ a dx gs t r, v = .ref a ∧ F a = some (.ins (c.cl C) dx gs) ∧ (offN gs).map (·.1) = ns ∧ RWs c F ρ ws ((offN gs).map (·.2)) ∧ gs.lookup ("nodes" : Str) = some (.ref t) ∧ SqT c.K F t (.ref a :: r) ∧ NRs c F ρ kids r
  | .ref i, v => ∃ a, v = .ref a ∧ ρ[i]? = some a
  | .ty n, v => v = .ty n
  | .cls C, v => v = .ref (c.cl C)
def RWs (c : Cn) (F : Hp) (ρ : List Addr) : List W → List V → Prop
  | [], vs => vs = []
  | w :: ws, vs => ∃ v r, vs = v :: r ∧ RW c F ρ w v ∧ RWs c F ρ ws r
/-- the nodes of some trees, one after another -/
def NRs (c : Cn) (F : Hp) (ρ : List Addr) : List W → List V → Prop
  | [], r => r = []
  | .tree C ns ws kids :: ks, r => ∃ v r1 r2, r = v :: (r1 ++ r2) ∧ RW c F ρ (.tree C ns ws kids) v ∧ NRs c F ρ kids r1 ∧ NRs c F ρ ks r2
  | _ :: _, _ => False
end

theorem rd_mono {F F' : Hp} {a : Addr} {o : HO} (s : Same F F') (h : Rd F a o) : Rd F' a o := h.imp (s _ _) fun ⟨u, h⟩ => ⟨u, s _ _ h⟩
theorem sqT_mono {K : PySem.W.Frag} {F F' : Hp} {a : Addr} {xs : List V} (s : Same F F') (h : SqT K F a xs) : SqT K F' a xs := by
  rcases h with (h | ⟨o, h⟩) | h
  · exact .inl (.inl (s _ _ h))
  · exact .inl (.inr ⟨o, s _ _ h⟩)
  · exact .inr h

def Pre (ρ ρ' : List Addr) : Prop := ∀ (i : Nat) (a : Addr), ρ[i]? = some a → ρ'[i]? = some a
theorem Pre.refl (ρ : List Addr) : Pre ρ ρ := fun _ _ h => h
theorem Pre.trans {a b c : List Addr} (x : Pre a b) (y : Pre b c) : Pre a c := fun i q h => y i q (x i q h)

mutual
theorem RW.mono {c : Cn} {F F' : Hp} {ρ ρ' : List Addr} (s : Same F F') (p : Pre ρ ρ') : ∀ (w : W) (v : V), RW c F ρ w v → RW c F' ρ' w v
  | .non, _, h => h
  | .bl _, _, h => h
  | .int _, _, h => h
  | .str _, _, h => h
  | .tup ws, v, h => by
    unfold RW at h ⊢
    obtain ⟨a, vs, e, q, r⟩ := h
    exact ⟨a, vs, e, sqT_mono s q, RWs.mono s p ws vs r⟩
  | .lst ws, v, h => by
    unfold RW at h ⊢
    obtain ⟨a, vs, e, q, r⟩ := h
    exact ⟨a, vs, e, rd_mono s q, RWs.mono s p ws vs r⟩
  | .dct ks ws, v, h => by
    unfold RW at h ⊢
    obtain ⟨a, o, e, ⟨kvs, q, k, r⟩ | ⟨kvs, q, k, r⟩⟩ := h
    · exact ⟨a, o, e, .inl ⟨kvs, s _ _ q, k, RWs.mono s p ws _ r⟩⟩
    · exact ⟨a, o, e, .inr ⟨kvs, s _ _ q, k, RWs.mono s p ws _ r⟩⟩
  | .tree C ns ws kids, v, h => by
    unfold RW at h ⊢
    obtain ⟨a, dx, gs, t, rr, e, q, n, r, l, z, y⟩ := h
    exact ⟨a, dx, gs, t, rr, e, s _ _ q, n, RWs.mono s p ws _ r, l, sqT_mono s z, NRs.mono s p kids rr y⟩
  | .obj C ns ws, v, h => by
    unfold RW at h ⊢
    obtain ⟨a, dx, gs, e, q, n, r⟩ := h
    exact ⟨a, dx, gs, e, s _ _ q, n, RWs.mono s p ws _ r⟩
  | .ref i, v, h => by
    unfold RW at h ⊢
    obtain ⟨a, e, q⟩ := h
    exact ⟨a, e, p _ _ q⟩
  | .ty _, _, h => h
  | .cls _, _, h => h
theorem RWs.mono {c : Cn} {F F' : Hp} {ρ ρ' : List Addr} (s : Same F F') (p : Pre ρ ρ') : ∀ (ws : List W) (vs : List V), RWs c F ρ ws vs → RWs c F' ρ' ws vs
  | [], _, h => h
  | w :: ws, vs, h => by
    unfold RWs at h ⊢
    obtain ⟨v, r, e, q, t⟩ := h
    exact ⟨v, r, e, RW.mono s p w v q, RWs.mono s p ws r t⟩
theorem NRs.mono {c : Cn} {F F' : Hp} {ρ ρ' : List Addr} (s : Same F F') (p : Pre ρ ρ') : ∀ (ws : List W) (vs : List V), NRs c F ρ ws vs → NRs c F' ρ' ws vs
  | [], _, h => h
  | .tree C ns ws kids :: ks, vs, h => by
    unfold NRs at h ⊢
    obtain ⟨v, r1, r2, e, q, t1, t2⟩ := h
    exact ⟨v, r1, r2, e, RW.mono s p (.tree C ns ws kids) v q, NRs.mono s p kids r1 t1, NRs.mono s p ks r2 t2⟩
  | .non :: _, _, h => by unfold NRs at h; exact h.elim
  | .bl _ :: _, _, h => by unfold NRs at h; exact h.elim
  | .int _ :: _, _, h => by unfold NRs at h; exact h.elim
  | .str _ :: _, _, h => by unfold NRs at h; exact h.elim
  | .tup _ :: _, _, h => by unfold NRs at h; exact h.elim
  | .lst _ :: _, _, h => by unfold NRs at h; exact h.elim
  | .dct _ _ :: _, _, h => by unfold NRs at h; exact h.elim
  | .obj _ _ _ :: _, _, h => by unfold NRs at h; exact h.elim
  | .ref _ :: _, _, h => by unfold NRs at h; exact h.elim
  | .ty _ :: _, _, h => by unfold NRs at h; exact h.elim
  | .cls _ :: _, _, h => by unfold NRs at h; exact h.elim
end

section
variable {c : Cn} {F : Hp} {ρ : List Addr}
theorem RWs.nil : RWs c F ρ [] [] := rfl
theorem RWs.cons {w : W} {v : V} {ws : List W} {vs : List V} (h : RW c F ρ w v) (t : RWs c F ρ ws vs) : RWs c F ρ (w :: ws) (v :: vs) := by
  unfold RWs
  exact ⟨v, vs, rfl, h, t⟩
theorem RWs.inv {w : W} {ws : List W} {vs : List V} (h : RWs c F ρ (w :: ws) vs) : ∃ v r, vs = v :: r ∧ RW c F ρ w v ∧ RWs c F ρ ws r := by
  unfold RWs at h
  exact h
theorem RWs.length : ∀ {ws : List W} {vs : List V}, RWs c F ρ ws vs → vs.length = ws.length
  | [], _, h => by
    have e : _ = [] := h
    rw [e]
    rfl
  | w :: ws, vs, h => by
    obtain ⟨v, r, e, _, t⟩ := h.inv
    rw [e, List.length_cons, List.length_cons, RWs.length t]
theorem RWs.get : ∀ {ws : List W} {vs : List V} {i : Nat} {w : W}, RWs c F ρ ws vs → ws[i]? = some w → ∃ v, vs[i]? = some v ∧ RW c F ρ w v
  | [], _, _, _, _, e => by simp at e
  | x :: ws, vs, 0, w, h, e => by
    obtain ⟨v, r, rfl, q, t⟩ := h.inv
    simp at e
    subst e
    exact ⟨v, rfl, q⟩
  | x :: ws, vs, i + 1, w, h, e => by
    obtain ⟨v, r, rfl, q, t⟩ := h.inv
    obtain ⟨u, h1, h2⟩ := RWs.get (i := i) t (by simpa using e)
    exact ⟨u, by simpa using h1, h2⟩
theorem RWs.append : ∀ {ws us : List W} {vs ts : List V}, RWs c F ρ ws vs → RWs c F ρ us ts → RWs c F ρ (ws ++ us) (vs ++ ts)
  | [], us, vs, ts, h, q => by
    have e : vs = [] := h
    rw [e]
    exact q
  | w :: ws, us, vs, ts, h, q => by
    obtain ⟨v, r, rfl, h1, t⟩ := h.inv
    exact .cons h1 (RWs.append t q)
theorem RWs.take : ∀ {ws : List W} {vs : List V} (n : Nat), RWs c F ρ ws vs → RWs c F ρ (ws.take n) (vs.take n)
  | _, _, 0, _ => by simp only [List.take_zero]; exact .nil
  | [], vs, n + 1, h => by
    have e : vs = [] := h
    rw [e]
    exact .nil
  | w :: ws, vs, n + 1, h => by
    obtain ⟨v, r, rfl, h1, t⟩ := h.inv
    exact .cons h1 (RWs.take n t)
theorem RWs.drop : ∀ {ws : List W} {vs : List V} (n : Nat), RWs c F ρ ws vs → RWs c F ρ (ws.drop n) (vs.drop n)
  | _, _, 0, h => h
  | [], vs, n + 1, h => by
    have e : vs = [] := h
    rw [e]
    exact .nil
  | w :: ws, vs, n + 1, h => by
    obtain ⟨v, r, rfl, h1, t⟩ := h.inv
    exact RWs.drop n t
theorem RWs.set : ∀ {ws : List W} {vs : List V} {w : W} {v : V} (i : Nat), RWs c F ρ ws vs → RW c F ρ w v → RWs c F ρ (ws.set i w) (vs.set i v)
  | [], vs, _, _, _, h, _ => by
    have e : vs = [] := h
    rw [e]
    exact .nil
  | x :: ws, vs, w, v, 0, h, q => by
    obtain ⟨u, r, rfl, h1, t⟩ := h.inv
    exact .cons q t
  | x :: ws, vs, w, v, i + 1, h, q => by
    obtain ⟨u, r, rfl, h1, t⟩ := h.inv
    exact .cons h1 (RWs.set i t q)
theorem RWs.reverse : ∀ {ws : List W} {vs : List V}, RWs c F ρ ws vs → RWs c F ρ ws.reverse vs.reverse
  | [], vs, h => by
    have e : vs = [] := h
    rw [e]
    exact .nil
  | w :: ws, vs, h => by
    obtain ⟨v, r, rfl, h1, t⟩ := h.inv
    rw [List.reverse_cons, List.reverse_cons]
    exact (RWs.reverse t).append (.cons h1 .nil)
end

/-! ### the store -/
def OR (c : Cn) (F : Hp) (ρ : List Addr) (a : Addr) : MO → HO → Prop
  | .lst xs, o => ∃ vs, o = .lst vs ∧ RWs c F ρ xs vs
  | .dK ks ws, o => ∃ kvs, o = .dK kvs ∧ ks.map keyOf = kvs.map (fun p => some p.1) ∧ RWs c F ρ ws (kvs.map (·.2))
  | .dT ks ws, o => ∃ kvs, o = .dT kvs ∧ ks.map tkeyOf = kvs.map (fun p => some p.1) ∧ RWs c F ρ ws (kvs.map (·.2))
  | .ins C ns ws, o => ∃ dx gs, o = .ins (c.cl C) dx gs ∧ gs.map (·.1) = ns ∧ RWs c F ρ ws (gs.map (·.2))
  | .tin C ns ws kids, o => ∃ dx gs t r, o = .ins (c.cl C) dx gs ∧ (offN gs).map (·.1) = ns ∧ RWs c F ρ ws ((offN gs).map (·.2)) ∧ gs.lookup ("nodes" : Str) = some (.ref t) ∧ SqT c.K F t (.ref a :: r) ∧ NRs c F ρ kids r
theorem OR.mono {c : Cn} {F F' : Hp} {ρ ρ' : List Addr} {a : Addr} (s : Same F F') (p : Pre ρ ρ') {o : MO} {h : HO} (x : OR c F ρ a o h) : OR c F' ρ' a o h := by
  cases o with
  | lst xs =>
    obtain ⟨vs, e, r⟩ := x
    exact ⟨vs, e, r.mono s p⟩
  | dK ks ws =>
    obtain ⟨vs, e, k, r⟩ := x
    exact ⟨vs, e, k, r.mono s p⟩
  | dT ks ws =>
    obtain ⟨vs, e, k, r⟩ := x
    exact ⟨vs, e, k, r.mono s p⟩
  | ins C ns ws =>
    obtain ⟨dx, gs, e, n, r⟩ := x
    exact ⟨dx, gs, e, n, r.mono s p⟩
  | tin C ns ws kids =>
    obtain ⟨dx, gs, t, rr, e, n, r, l, z, y⟩ := x
    exact ⟨dx, gs, t, rr, e, n, r.mono s p, l, sqT_mono s z, NRs.mono s p _ _ y⟩

structure R (c : Cn) (F : Hp) (ρ : List Addr) (m : Sto) (H : Hp) : Prop where
  sub : Same F H
  len : ρ.length = m.length
  nd : ρ.Nodup
  off : ∀ a ∈ ρ, F a = none
  at_ : ∀ (i : Nat) (a : Addr) (o : MO), ρ[i]? = some a → m[i]? = some o → ∃ h, H a = some h ∧ OR c F ρ a o h

structure Go (F : Hp) (ρ : List Addr) (H F' : Hp) (ρ' : List Addr) (H' : Hp) : Prop where
  ff : Same F F'
  pre : Pre ρ ρ'
  keep : ∀ a o, H a = some o → a ∉ ρ → H' a = some o
  off : ∀ a o, H a = some o → a ∉ ρ → a ∉ ρ' ∧ (F a = none → F' a = none)
theorem Go.refl {F : Hp} {ρ : List Addr} {H : Hp} : Go F ρ H F ρ H := ⟨Same.refl _, .refl _, fun _ _ h _ => h, fun _ _ _ h => ⟨h, fun z => z⟩⟩
theorem Go.trans {F F1 F2 : Hp} {ρ ρ1 ρ2 : List Addr} {H H1 H2 : Hp} (x : Go F ρ H F1 ρ1 H1) (y : Go F1 ρ1 H1 F2 ρ2 H2) : Go F ρ H F2 ρ2 H2 :=
  ⟨x.ff.trans y.ff, x.pre.trans y.pre, fun a o h n => y.keep a o (x.keep a o h n) (x.off a o h n).1, fun a o h n =>
    ⟨(y.off a o (x.keep a o h n) (x.off a o h n).1).1, fun z => (y.off a o (x.keep a o h n) (x.off a o h n).1).2 ((x.off a o h n).2 z)⟩⟩

/-- a new frozen object -/
theorem upd_new {H : Hp} {p : Addr} {o : HO} (n : H p = none) : Same H (upd H p o) := fun b u e => by rw [upd_ne (ne_of_none e n)]; exact e
theorem same_upd2 {F H : Hp} {p : Addr} {o : HO} (s : Same F H) (n : H p = none) : Same (upd F p o) (upd H p o) := fun b u e => by
  by_cases hb : b = p
  · subst hb
    rw [upd_same] at e ⊢
    exact e
  · rw [upd_ne hb] at e ⊢
    exact s _ _ e
section
variable {c : Cn} {F : Hp} {ρ : List Addr} {m : Sto} {H : Hp}
theorem R.notin (r : R c F ρ m H) {p : Addr} (n : H p = none) : p ∉ ρ := fun q => by
  obtain ⟨i, hi⟩ := List.getElem?_of_mem q
  have hl : i < m.length := by
    rw [← r.len]
    exact (List.getElem?_eq_some_iff.mp hi).1
  obtain ⟨h, e, _⟩ := r.at_ i p m[i] hi (by simp [hl])
  rw [n] at e
  cases e
theorem R.fnone (r : R c F ρ m H) {p : Addr} (n : H p = none) : F p = none := r.sub.free n
/-- a new object that never changes -/
theorem R.new (r : R c F ρ m H) {p : Addr} (n : H p = none) (o : HO) : R c (upd F p o) ρ m (upd H p o) ∧ Go F ρ H (upd F p o) ρ (upd H p o) := by
  have fs : Same F (upd F p o) := upd_new (r.fnone n)
  have ne : ∀ {a : Addr} {u : HO}, H a = some u → a ≠ p := fun e => ne_of_none e n
  have ni := r.notin n
  refine ⟨⟨same_upd2 r.sub n, r.len, r.nd, fun a ha => ?_, fun i a ob h1 h2 => ?_⟩, ⟨fs, .refl _, fun a u e _ => ?_, fun a u e q => ⟨q, fun z => ?_⟩⟩⟩
  · rw [upd_ne (fun z => ni (by rw [← z]; exact ha))]
    exact r.off a ha
  · obtain ⟨h, e, q⟩ := r.at_ i a ob h1 h2
    exact ⟨h, by rw [upd_ne (ne e)]; exact e, q.mono fs (.refl _)⟩
  · rw [upd_ne (ne e)]
    exact e
  · rw [upd_ne (ne e)]
    exact z
/-- a new object that is not frozen (an own one) -/
theorem R.newH (r : R c F ρ m H) {p : Addr} (n : H p = none) (o : HO) : R c F ρ m (upd H p o) ∧ Go F ρ H F ρ (upd H p o) := by
  have ne : ∀ {a : Addr} {u : HO}, H a = some u → a ≠ p := fun e => ne_of_none e n
  refine ⟨⟨r.sub.trans (upd_new n), r.len, r.nd, r.off, fun i a ob h1 h2 => ?_⟩, ⟨Same.refl _, .refl _, fun a u e _ => ?_, fun a u e q => ⟨q, fun z => z⟩⟩⟩
  · obtain ⟨h, e, q⟩ := r.at_ i a ob h1 h2
    exact ⟨h, by rw [upd_ne (ne e)]; exact e, q⟩
  · rw [upd_ne (ne e)]
    exact e
end

/-! ### the slots of a frame -/
structure RS (c : Cn) (F : Hp) (ρ : List Addr) (τ : SS) (σ : L2.St) (H : Hp) : Prop where
  len : τ.length = σ.length
  val : ∀ (i : Nat) (w : W), τ[i]? = some (.val w) → ∃ v, σ[i]? = some (some v) ∧ RW c F ρ w v
  own : ∀ (i : Nat) (o : MO), τ[i]? = some (.own o) → ∃ a h, σ[i]? = some (some (.ref a)) ∧ F a = none ∧ a ∉ ρ ∧ H a = some h ∧ OR c F ρ a o h
  nd : ∀ (i j : Nat) (o o' : MO) (a : Addr), i ≠ j → τ[i]? = some (.own o) → τ[j]? = some (.own o') → σ[i]? = some (some (.ref a)) → σ[j]? = some (some (.ref a)) → False
theorem RS.go {c : Cn} {F F' : Hp} {ρ ρ' : List Addr} {τ : SS} {σ : L2.St} {H H' : Hp} (s : RS c F ρ τ σ H) (g : Go F ρ H F' ρ' H') : RS c F' ρ' τ σ H' :=
  ⟨s.len, fun i w e => by
    obtain ⟨v, h, r⟩ := s.val i w e
    exact ⟨v, h, r.mono g.ff g.pre⟩, fun i o e => by
    obtain ⟨a, h, h1, h2, h3, h4, h5⟩ := s.own i o e
    obtain ⟨q1, q2⟩ := g.off a h h4 h3
    exact ⟨a, h, h1, q2 h2, q1, g.keep a h h4 h3, h5.mono g.ff g.pre⟩, s.nd⟩

/-! ### the readings -/
section
variable (c : Cn) (F : Hp) (ρ : List Addr) (H : Hp)
def OkE (Q : VK) (w : W) (m' : Sto) : Prop := ∀ v F' ρ' H', R c F' ρ' m' H' → Go F ρ H F' ρ' H' → RW c F' ρ' w v → Q v H'
def OkB (Q : VK) (w : W) (m' : Sto) : Prop := ∀ v F' ρ' H', R c F' ρ' m' H' → Go F ρ H F' ρ' H' → RW c H' ρ' w v → Q v H'
def OkA (Q : List V → Hp → Prop) (ws : List W) (m' : Sto) : Prop := ∀ vs F' ρ' H', R c F' ρ' m' H' → Go F ρ H F' ρ' H' → RWs c F' ρ' ws vs → Q vs H'
/-- an exception: its class and its own dict -/
def XR (F' : Hp) (ρ' : List Addr) (H' : Hp) (x : Ex) (cls : Value) (d : Option Addr) : Prop := cls = .ref (c.cl x.cls) ∧
  ((d = none ∧ x.ns = [] ∧ x.vs = []) ∨ ∃ dd gs, d = some dd ∧ H' dd = some (.xd gs) ∧ gs.map (·.1) = x.ns ∧ RWs c F' ρ' x.vs (gs.map (·.2)) ∧ dd ∉ ρ' ∧ H dd = none)
def OkX (E : XK) (x : Ex) (m' : Sto) : Prop := ∀ cls d F' ρ' H', R c F' ρ' m' H' → Go F ρ H F' ρ' H' → XR c H F' ρ' H' x cls d → E cls d H'
end
def Post {α : Type} (ok : α → Sto → Prop) (ex : Ex → Sto → Prop) : Res α → Prop
  | .ok a m => ok a m
  | .exc x m => ex x m
  | .bad => False

section
variable (c : Cn) (Wx : WX)
def sE (f : Fe) : TE := fun σ H Q => ∃ F ρ m τ, R c F ρ m H ∧ RS c F ρ τ σ H ∧ Post (OkE c F ρ H Q) (OkX c F ρ H fun k d H' => Wx k d σ H') (f τ m)
def sB (f : Fe) : TE := fun σ H Q => ∃ F ρ m τ, R c F ρ m H ∧ RS c F ρ τ σ H ∧ Post (OkB c F ρ H Q) (OkX c F ρ H fun k d H' => Wx k d σ H') (f τ m)
def sA (f : Fas) : TA := fun σ H Q => ∃ F ρ m τ, R c F ρ m H ∧ RS c F ρ τ σ H ∧ Post (OkA c F ρ H Q) (OkX c F ρ H fun k d H' => Wx k d σ H') (f τ m)
end
abbrev SE (c : Cn) (X : Cx) (Wx : WX) (e : Expr) (f : Fe) : Prop := PE X e (sE c Wx f)
abbrev SB (c : Cn) (X : Cx) (Wx : WX) (e : Expr) (f : Fe) : Prop := PE X e (sB c Wx f)
abbrev SA (c : Cn) (X : Cx) (Wx : WX) (es : List Expr) (f : Fas) : Prop := PA X es (sA c Wx f)

theorem PE.weak {X : Cx} {e : Expr} {t t' : TE} (h : PE X e t') (w : ∀ σ H Q, t σ H Q → t' σ H Q) : PE X e t := ⟨fun pins s σ H Q I q => h.run pins s σ H Q I (w _ _ _ q)⟩
theorem PA.weak {X : Cx} {es : List Expr} {t t' : TA} (h : PA X es t') (w : ∀ σ H Q, t σ H Q → t' σ H Q) : PA X es t := ⟨fun pos pins s σ H Q I q => h.run pos pins s σ H Q I (w _ _ _ q)⟩
theorem PS.weak {X : Cx} {e : Stmt} {t t' : TS} (h : PS X e t') (w : ∀ D σ H, t D σ H → t' D σ H) : PS X e t := ⟨fun pins s σ H Q I q => h.run pins s σ H Q I (w _ _ _ q)⟩
theorem PSs.weak {X : Cx} {e : List Stmt} {t t' : TS} (h : PSs X e t') (w : ∀ D σ H, t D σ H → t' D σ H) : PSs X e t := ⟨fun pins s σ H Q I q => h.run pins s σ H Q I (w _ _ _ q)⟩

/-! what is behind a step, seen from ahead of it -/
section
variable {c : Cn} {F F1 : Hp} {ρ ρ1 : List Addr} {H H1 : Hp}
theorem OkE.back {Q : VK} {w : W} {m : Sto} (g : Go F ρ H F1 ρ1 H1) (h : OkE c F ρ H Q w m) : OkE c F1 ρ1 H1 Q w m := fun v F' ρ' H' r g' q => h v F' ρ' H' r (g.trans g') q
theorem OkB.back {Q : VK} {w : W} {m : Sto} (g : Go F ρ H F1 ρ1 H1) (h : OkB c F ρ H Q w m) : OkB c F1 ρ1 H1 Q w m := fun v F' ρ' H' r g' q => h v F' ρ' H' r (g.trans g') q
theorem OkA.back {Q : List V → Hp → Prop} {w : List W} {m : Sto} (g : Go F ρ H F1 ρ1 H1) (h : OkA c F ρ H Q w m) : OkA c F1 ρ1 H1 Q w m := fun v F' ρ' H' r g' q => h v F' ρ' H' r (g.trans g') q
theorem XR.back {F' : Hp} {ρ' : List Addr} {H' : Hp} {x : Ex} {cls : Value} {d : Option Addr} (g : Go F ρ H F1 ρ1 H1) (h : XR c H1 F' ρ' H' x cls d) (hn : ∀ a, H1 a = none → a ∉ ρ → H a = none) (hr : ∀ a ∈ ρ, H1 a ≠ none) : XR c H F' ρ' H' x cls d := by
  obtain ⟨h1, h2⟩ := h
  refine ⟨h1, h2.imp id fun ⟨dd, gs, a, b, e, f, g1, g2⟩ => ⟨dd, gs, a, b, e, f, g1, hn dd g2 fun z => hr dd z g2⟩⟩
theorem R.live {m : Sto} (r : R c F ρ m H) : ∀ a ∈ ρ, H a ≠ none := fun a q n => r.notin n q
theorem Go.nn (g : Go F ρ H F1 ρ1 H1) : ∀ a, H1 a = none → a ∉ ρ → H a = none := fun a n q => by
  cases e : H a with
  | none => rfl
  | some o =>
    rw [g.keep a o e q] at n
    cases n
theorem R.live1 {m : Sto} (r : R c F1 ρ1 m H1) (g : Go F ρ H F1 ρ1 H1) : ∀ a ∈ ρ, H1 a ≠ none := fun a q => by
  obtain ⟨i, hi⟩ := List.getElem?_of_mem q
  exact r.live a (List.mem_of_getElem? (g.pre i a hi))
theorem OkX.back {E : XK} {x : Ex} {m m1 : Sto} (r1 : R c F1 ρ1 m1 H1) (g : Go F ρ H F1 ρ1 H1) (h : OkX c F ρ H E x m) : OkX c F1 ρ1 H1 E x m := fun cls d F' ρ' H' r g' q => h cls d F' ρ' H' r (g.trans g') (q.back g g.nn (r1.live1 g))
end
end Sm

/-! S2: expressions. -/
namespace Sm
open PySem PySem.Spec PyProof.Rows L2

def toW : MO → W
  | .lst xs => .lst xs
  | .dK ks vs => .dct ks vs
  | .dT ks vs => .dct ks vs
  | .ins C ns vs => .obj C ns vs
  | .tin C ns vs kids => .tree C ns vs kids
/-- borrowed: frozen, or an own object as it stands -/
def RB (c : Cn) (F : Hp) (ρ : List Addr) (H : Hp) (w : W) (v : V) : Prop := RW c F ρ w v ∨ ∃ a h o, v = V.ref a ∧ w = toW o ∧ H a = some h ∧ a ∉ ρ ∧ F a = none ∧ OR c F ρ a o h
section
variable {c : Cn} {F F' : Hp} {ρ ρ' : List Addr} {H H' : Hp} {m : Sto} {v : V}
theorem RB.go {w : W} (h : RB c F ρ H w v) (g : Go F ρ H F' ρ' H') : RB c F' ρ' H' w v := by
  rcases h with h | ⟨a, u, o, h1, h2, h3, h4, h5, h6⟩
  · exact .inl (h.mono g.ff g.pre)
  · obtain ⟨q1, q2⟩ := g.off a u h3 h4
    exact .inr ⟨a, u, o, h1, h2, g.keep a u h3 h4, q1, q2 h5, h6.mono g.ff g.pre⟩
theorem RB.scal {w : W} (h : RB c F ρ H w v) (n : ∀ o, w ≠ toW o) : RW c F ρ w v := by
  rcases h with h | ⟨a, u, o, h1, h2, _⟩
  · exact h
  · exact absurd h2 (n o)
theorem RB.int {i : Int} (h : RB c F ρ H (.int i) v) : v = .int i := h.scal fun o e => by cases o <;> cases e
theorem RB.str {i : Str} (h : RB c F ρ H (.str i) v) : v = .str i := h.scal fun o e => by cases o <;> cases e
theorem RB.bl {i : Bool} (h : RB c F ρ H (.bl i) v) : v = .bl i := h.scal fun o e => by cases o <;> cases e
theorem RB.non (h : RB c F ρ H .non v) : v = .non := h.scal fun o e => by cases o <;> cases e
theorem RB.ref {i : Nat} (h : RB c F ρ H (.ref i) v) : ∃ a, v = .ref a ∧ ρ[i]? = some a := by
  have q := h.scal fun o e => by cases o <;> cases e
  unfold RW at q
  exact q
theorem RB.tup {ws : List W} (r : R c F ρ m H) (h : RB c F ρ H (.tup ws) v) : ∃ a vs, v = .ref a ∧ SqT c.K H a vs ∧ RWs c F ρ ws vs := by
  have q := h.scal fun o e => by cases o <;> cases e
  unfold RW at q
  obtain ⟨a, vs, e, s, t⟩ := q
  exact ⟨a, vs, e, sqT_mono r.sub s, t⟩
theorem RB.lst {ws : List W} (r : R c F ρ m H) (h : RB c F ρ H (.lst ws) v) : ∃ a vs, v = .ref a ∧ Rd H a (.lst vs) ∧ RWs c F ρ ws vs := by
  rcases h with h | ⟨a, u, o, h1, h2, h3, h4, h5, h6⟩
  · unfold RW at h
    obtain ⟨a, vs, e, s, t⟩ := h
    exact ⟨a, vs, e, rd_mono r.sub s, t⟩
  · cases o with
    | lst xs =>
      cases h2
      obtain ⟨vs, rfl, t⟩ := h6
      exact ⟨a, vs, h1, .of h3, t⟩
    | _ => cases h2
/-- a place of the store -/
theorem R.lst {i : Nat} {a : Addr} {xs : List W} (r : R c F ρ m H) (h : ρ[i]? = some a) (e : m[i]? = some (.lst xs)) : ∃ vs, H a = some (.lst vs) ∧ RWs c F ρ xs vs := by
  obtain ⟨o, ho, q⟩ := r.at_ i a _ h e
  obtain ⟨vs, rfl, t⟩ := q
  exact ⟨vs, ho, t⟩
end

section
variable (c : Cn) (F : Hp) (ρ : List Addr) (H : Hp)
def OkW (Q : VK) (w : W) (m' : Sto) : Prop := ∀ v F' ρ' H', R c F' ρ' m' H' → Go F ρ H F' ρ' H' → RB c F' ρ' H' w v → Q v H'
end
section
variable (c : Cn) (Wx : WX)
def sW (f : Fe) : TE := fun σ H Q => ∃ F ρ m τ, R c F ρ m H ∧ RS c F ρ τ σ H ∧ Post (OkW c F ρ H Q) (OkX c F ρ H fun k d H' => Wx k d σ H') (f τ m)
end
/-- e is read (and not kept): worth f -/
abbrev SR (c : Cn) (X : Cx) (Wx : WX) (e : Expr) (f : Fe) : Prop := PE X e (sW c Wx f)

section
variable {c : Cn} {X : Cx} {Wx : WX}
theorem SE.rd {e : Expr} {f : Fe} (h : SE c X Wx e f) : SR c X Wx e f := PE.weak h fun σ H Q ⟨F, ρ, m, τ, r, s, p⟩ => ⟨F, ρ, m, τ, r, s, by
  cases e : f τ m with
  | ok w m' =>
    rw [e] at p
    exact fun v F' ρ' H' r' g q => p v F' ρ' H' r' g (.inl q)
  | exc x m' =>
    rw [e] at p
    exact p
  | bad =>
    rw [e] at p
    exact p⟩

/-! ### names, constants -/
def eVar (i : Nat) : Fe := fun τ m => match τ[i]? with
  | some (.val w) => .ok w m
  | _ => .bad
def rVar (i : Nat) : Fe := fun τ m => match τ[i]? with
  | some (.val w) => .ok w m
  | some (.own o) => .ok (toW o) m
  | _ => .bad
def eC (w : W) : Fe := fun _ m => .ok w m
theorem s_var (i : Nat) {x : Str} {pos : Pos} (hN : X.N[i]? = some x := by rfl) (hv : Vis X.env.scope x := by first | exact Or.inl rfl | exact Or.inr (Or.inl rfl) | exact Or.inr (Or.inr rfl)) (hd : (x == ("__debug__" : Str)) = false := by decide)
    (hcd : (x == ("__classdict__" : Str)) = false := by decide) : SE c X Wx (.Name x pos) (eVar i) := PE.weak (pe_var hN hv hd hcd) fun σ H Q ⟨F, ρ, m, τ, r, s, p⟩ => by
  unfold eVar at p
  split at p
  · rename_i w e
    obtain ⟨v, h1, h2⟩ := s.val i w e
    exact ⟨v, h1, p v F ρ H r .refl h2⟩
  · exact p.elim
theorem s_rvar (i : Nat) {x : Str} {pos : Pos} (hN : X.N[i]? = some x := by rfl) (hv : Vis X.env.scope x := by first | exact Or.inl rfl | exact Or.inr (Or.inl rfl) | exact Or.inr (Or.inr rfl)) (hd : (x == ("__debug__" : Str)) = false := by decide)
    (hcd : (x == ("__classdict__" : Str)) = false := by decide) : SR c X Wx (.Name x pos) (rVar i) := PE.weak (pe_var hN hv hd hcd) fun σ H Q ⟨F, ρ, m, τ, r, s, p⟩ => by
  unfold rVar at p
  split at p
  · rename_i w e
    obtain ⟨v, h1, h2⟩ := s.val i w e
    exact ⟨v, h1, p v F ρ H r .refl (.inl h2)⟩
  · rename_i o e
    obtain ⟨a, h, h1, h2, h3, h4, h5⟩ := s.own i o e
    exact ⟨_, h1, p _ F ρ H r .refl (.inr ⟨a, h, o, rfl, rfl, h4, h3, h2, h5⟩)⟩
  · exact p.elim
theorem const {v : V} {w : W} {e : Expr} (h : PE X e (tC v)) (q : ∀ F ρ, RW c F ρ w v) : SE c X Wx e (eC w) := PE.weak h fun σ H Q ⟨F, ρ, m, τ, r, s, p⟩ => p v F ρ H r .refl (q F ρ)
theorem s_int {i : Int} {j pos} : SE c X Wx (.Constant (.int i) j pos) (eC (.int i)) := const pe_int fun _ _ => rfl
theorem s_str {i : Str} {j pos} : SE c X Wx (.Constant (.str i) j pos) (eC (.str i)) := const pe_str fun _ _ => rfl
theorem s_bl {i : Bool} {j pos} : SE c X Wx (.Constant (.bool i) j pos) (eC (.bl i)) := const pe_bl fun _ _ => rfl
theorem s_non {j pos} : SE c X Wx (.Constant .none j pos) (eC .non) := const pe_non fun _ _ => rfl

/-! ### operators -/
def lift (o : Option W) : M W := fun m => match o with
  | some w => .ok w m
  | none => .bad
def op2 (g : W → W → Sto → Option W) (fa fb : Fe) : Fe := fun τ => bnd (fa τ) fun x => bnd (fb τ) fun y m => lift (g x y m) m
def op1 (g : W → Sto → Option W) (fa : Fe) : Fe := fun τ => bnd (fa τ) fun x m => lift (g x m) m
def rS (c : Cn) (g : W → W → Sto → Option W) : R2 := fun x y H Q => ∃ F ρ m w1 w2 w, R c F ρ m H ∧ RB c F ρ H w1 x ∧ RB c F ρ H w2 y ∧ g w1 w2 m = some w ∧ OkE c F ρ H Q w m
def rS1 (c : Cn) (g : W → Sto → Option W) : V → Hp → VK → Prop := fun x H Q => ∃ F ρ m w1 w, R c F ρ m H ∧ RB c F ρ H w1 x ∧ g w1 m = some w ∧ OkE c F ρ H Q w m

theorem w_op2 {g : W → W → Sto → Option W} {fa fb : Fe} {σ : L2.St} {H : Hp} {Q : VK} (h : sE c Wx (op2 g fa fb) σ H Q) : tOp (rS c g) (sW c Wx fa) (sW c Wx fb) σ H Q := by
  obtain ⟨F, ρ, m, τ, r, s, p⟩ := h
  refine ⟨F, ρ, m, τ, r, s, ?_⟩
  unfold op2 bnd at p
  cases e : fa τ m with
  | bad =>
    rw [e] at p
    exact p
  | exc x m' =>
    rw [e] at p
    exact p
  | ok w1 m1 =>
    rw [e] at p
    intro v1 F1 ρ1 H1 r1 g1 q1
    refine ⟨F1, ρ1, m1, τ, r1, s.go g1, ?_⟩
    dsimp only at p
    cases e2 : fb τ m1 with
    | bad =>
      rw [e2] at p
      exact p
    | exc x m' =>
      rw [e2] at p
      exact OkX.back r1 g1 p
    | ok w2 m2 =>
      rw [e2] at p
      intro v2 F2 ρ2 H2 r2 g2 q2
      dsimp only at p
      cases e3 : g w1 w2 m2 with
      | none =>
        rw [e3] at p
        exact p.elim
      | some w =>
        rw [e3] at p
        exact ⟨F2, ρ2, m2, w1, w2, w, r2, q1.go g2, q2, e3, OkE.back (g1.trans g2) p⟩
theorem w_op1 {g : W → Sto → Option W} {fa : Fe} {σ : L2.St} {H : Hp} {Q : VK} (h : sE c Wx (op1 g fa) σ H Q) : tUn (rS1 c g) (sW c Wx fa) σ H Q := by
  obtain ⟨F, ρ, m, τ, r, s, p⟩ := h
  refine ⟨F, ρ, m, τ, r, s, ?_⟩
  unfold op1 bnd at p
  cases e : fa τ m with
  | bad =>
    rw [e] at p
    exact p
  | exc x m' =>
    rw [e] at p
    exact p
  | ok w1 m1 =>
    rw [e] at p
    intro v1 F1 ρ1 H1 r1 g1 q1
    dsimp only at p
    cases e3 : g w1 m1 with
    | none =>
      rw [e3] at p
      exact p.elim
    | some w =>
      rw [e3] at p
      exact ⟨F1, ρ1, m1, w1, w, r1, q1, e3, OkE.back g1 p⟩

section
variable {a b : Expr} {fa fb : Fe} {pos : Pos} {g : W → W → Sto → Option W}
theorem s_bin {op : Operator} (ho : OpR X (binaryOp op) (rS c g)) (ha : SR c X Wx a fa) (hb : SR c X Wx b fb) : SE c X Wx (.BinOp a op b pos) (op2 g fa fb) := PE.weak (pe_op ho ha hb) fun _ _ _ h => w_op2 h
theorem s_cmp {op : CmpOp} (ho : OpR X (compareOp op) (rS c g)) (ha : SR c X Wx a fa) (hb : SR c X Wx b fb) (hm : behindInMarks op b = false := by first | exact nomark _ | rfl | with_unfolding_all rfl) : SE c X Wx (.Compare a [op] [b] pos) (op2 g fa fb) := PE.weak (pe_cmpR ho ha hb hm) fun _ _ _ h => w_op2 h
theorem s_ix (ho : IxR X (rS c g)) (ha : SR c X Wx a fa) (hb : SR c X Wx b fb) (hs : PlainIx b := by exact fun _ _ => rfl) : SE c X Wx (.Subscript a b pos) (op2 g fa fb) := PE.weak (pe_ix ho ha hb hs) fun _ _ _ h => w_op2 h
theorem s_un {op : UnaryOp} {g : W → Sto → Option W} (ho : UnR X (unaryOp op) (rS1 c g)) (ha : SR c X Wx a fa) : SE c X Wx (.UnaryOp op a pos) (op1 g fa) := PE.weak (pe_un ho ha) fun _ _ _ h => w_op1 h
end
end

/-! ### worths of operators -/
def addW : W → W → Sto → Option W
  | .int i, .int j, _ => some (.int (i + j))
  | .str a, .str b, _ => if a.length + b.length ≤ sizeLine then some (.str (a ++ b)) else none
  | .tup a, .tup b, _ => if a.length + b.length ≤ sizeLine then some (.tup (a ++ b)) else none
  | .lst a, .lst b, _ => if a.length + b.length ≤ sizeLine then some (.lst (a ++ b)) else none
  | _, _, _ => none
def subW : W → W → Sto → Option W
  | .int i, .int j, _ => some (.int (i - j))
  | _, _, _ => none
def mulW : W → W → Sto → Option W
  | .int i, .int j, _ => if (-(2 ^ 64) < i ∧ i < 2 ^ 64) ∨ (-(2 ^ 64) < j ∧ j < 2 ^ 64) then some (.int (i * j)) else none
  | _, _, _ => none
def modW : W → W → Sto → Option W
  | .int i, .int j, _ => if 0 < j then some (.int (i % j)) else none
  | _, _, _ => none
def fdivW : W → W → Sto → Option W
  | .int i, .int j, _ => if 0 < j ∧ j < 1073741824 then some (.int (i / j)) else none
  | _, _, _ => none
def powW : W → W → Sto → Option W
  | .int i, .int j, _ => if 0 ≤ j ∧ j ≤ 1000000 ∧ i.natAbs < 2 ^ 64 then some (.int (i ^ j.toNat)) else none
  | _, _, _ => none
def cmpI (p : Int → Int → Bool) : W → W → Sto → Option W
  | .int i, .int j, _ => some (.bl (p i j))
  | _, _, _ => none

section
variable {c : Cn} {X : Cx}
theorem op_intI {f : Value → Value → Sem Value} {p : Int → Int → Prop} {q : Int → Int → V} (h : OpR X f (rI p q)) {g : W → W → Sto → Option W}
    (hg : ∀ w1 w2 m w, g w1 w2 m = some w → ∃ i j, w1 = .int i ∧ w2 = .int j ∧ p i j ∧ ∀ F ρ, RW c F ρ w (q i j)) : OpR X f (rS c g) := by
  intro pins s σ H x y v u Q I rx ry hr
  obtain ⟨F, ρ, m, w1, w2, w, r, q1, q2, e, k⟩ := hr
  obtain ⟨i, j, rfl, rfl, hp, hw⟩ := hg _ _ _ _ e
  exact h pins s σ H x y v u Q I rx ry ⟨i, j, q1.int, q2.int, hp, k _ F ρ H r .refl (hw F ρ)⟩
theorem op_intI0 {f : Value → Value → Sem Value} {q : Int → Int → V} (h : OpR X f (rI0 q)) {g : W → W → Sto → Option W}
    (hg : ∀ w1 w2 m w, g w1 w2 m = some w → ∃ i j, w1 = .int i ∧ w2 = .int j ∧ ∀ F ρ, RW c F ρ w (q i j)) : OpR X f (rS c g) := by
  intro pins s σ H x y v u Q I rx ry hr
  obtain ⟨F, ρ, m, w1, w2, w, r, q1, q2, e, k⟩ := hr
  obtain ⟨i, j, rfl, rfl, hw⟩ := hg _ _ _ _ e
  exact h pins s σ H x y v u Q I rx ry ⟨i, j, q1.int, q2.int, k _ F ρ H r .refl (hw F ρ)⟩
theorem o_sub : OpR X (binaryOp .Sub) (rS c subW) := op_intI0 op_sub fun w1 w2 m w e => by
  unfold subW at e
  split at e
  · cases e
    exact ⟨_, _, rfl, rfl, fun _ _ => rfl⟩
  · cases e
theorem o_mul : OpR X (binaryOp .Mult) (rS c mulW) := op_intI op_mul fun w1 w2 m w e => by
  unfold mulW at e
  split at e
  · split at e
    · rename_i hc
      cases e
      exact ⟨_, _, rfl, rfl, hc, fun _ _ => rfl⟩
    · cases e
  · cases e
theorem o_mod : OpR X (binaryOp .Mod) (rS c modW) := op_intI op_mod fun w1 w2 m w e => by
  unfold modW at e
  split at e
  · split at e
    · rename_i hc
      cases e
      exact ⟨_, _, rfl, rfl, hc, fun _ _ => rfl⟩
    · cases e
  · cases e
theorem o_fdiv : OpR X (binaryOp .FloorDiv) (rS c fdivW) := op_intI op_fdiv fun w1 w2 m w e => by
  unfold fdivW at e
  split at e
  · split at e
    · rename_i hc
      cases e
      exact ⟨_, _, rfl, rfl, hc, fun _ _ => rfl⟩
    · cases e
  · cases e
theorem o_pow : OpR X (binaryOp .Pow) (rS c powW) := op_intI op_pow fun w1 w2 m w e => by
  unfold powW at e
  split at e
  · split at e
    · rename_i hc
      cases e
      exact ⟨_, _, rfl, rfl, hc, fun _ _ => rfl⟩
    · cases e
  · cases e
theorem cmp_int {f : Value → Value → Sem Value} {p : Int → Int → Bool} (h : OpR X f (rI0 fun i j => .bl (p i j))) : OpR X f (rS c (cmpI p)) := op_intI0 h fun w1 w2 m w e => by
  unfold cmpI at e
  split at e
  · cases e
    exact ⟨_, _, rfl, rfl, fun _ _ => rfl⟩
  · cases e
theorem o_lt : OpR X (compareOp .Lt) (rS c (cmpI fun i j => decide (i < j))) := cmp_int op_lt
theorem o_le : OpR X (compareOp .LtE) (rS c (cmpI fun i j => decide (i ≤ j))) := cmp_int op_le
theorem o_gt : OpR X (compareOp .Gt) (rS c (cmpI fun i j => decide (j < i))) := cmp_int op_gt
theorem o_ge : OpR X (compareOp .GtE) (rS c (cmpI fun i j => decide (j ≤ i))) := cmp_int op_ge

/-- a list, a tuple newly made, never to change -/
theorem OkE.newT {F : Hp} {ρ : List Addr} {H : Hp} {m : Sto} {Q : VK} {ws : List W} {vs : List V} (k : OkE c F ρ H Q (.tup ws) m) (r : R c F ρ m H) (h : RWs c F ρ ws vs) (p : Addr) (n : H p = none) : Q (.ref p) (upd H p (.tup vs)) := by
  obtain ⟨r1, g1⟩ := r.new n (.tup vs)
  refine k _ _ _ _ r1 g1 ?_
  unfold RW
  exact ⟨p, vs, rfl, .of upd_same, h.mono g1.ff g1.pre⟩
theorem OkE.newL {F : Hp} {ρ : List Addr} {H : Hp} {m : Sto} {Q : VK} {ws : List W} {vs : List V} (k : OkE c F ρ H Q (.lst ws) m) (r : R c F ρ m H) (h : RWs c F ρ ws vs) (p : Addr) (n : H p = none) : Q (.ref p) (upd H p (.lst vs)) := by
  obtain ⟨r1, g1⟩ := r.new n (.lst vs)
  refine k _ _ _ _ r1 g1 ?_
  unfold RW
  exact ⟨p, vs, rfl, .of upd_same, h.mono g1.ff g1.pre⟩
theorem Rd.raw {pins : List (Addr × Obj)} {s : Shared} {σ : L2.St} {H : Hp} {a : Addr} {xs : List V} (I : Inv X pins σ H s) (h : Rd H a (.lst xs)) : xs.length ≤ sizeLine ∧ ∃ (its : List Value) (n : Nat), Vals xs its ∧ s.heap.get? a = some { cls := .type "list", data := .seq its.toArray n } := h.ok I.hok
theorem cat_lists {pins : List (Addr × Obj)} {s : Shared} {σ : L2.St} {H : Hp} {a b : Addr} {xs ys : List V} {Q : VK} (I : Inv X pins σ H s) (ha : Rd H a (.lst xs)) (hb : Rd H b (.lst ys)) (hz : xs.length + ys.length ≤ sizeLine)
    (q : ∀ p, H p = none → Q (.ref p) (upd H p (.lst (xs ++ ys)))) : wpAny (model X.prog X.w) X.A (binaryOp .Add (.ref a) (.ref b)) (EP X pins σ Q) X.xe s := by
  obtain ⟨_, its, n, r, e⟩ := Rd.raw I ha
  obtain ⟨_, its2, n2, r2, e2⟩ := Rd.raw I hb
  have h1 := r.length
  have h2 := r2.length
  refine PySem.P.add_list e e2 ?_ (by rw [List.size_toArray, List.size_toArray]; omega)
  have ea : its.toArray ++ its2.toArray = (its ++ its2).toArray := by simp
  rw [ea]
  exact ⟨.ref _, _, I.lnew (t' := s.toks) (r.append r2) (by rw [List.length_append]; omega), rfl, q _ I.fresh⟩
theorem o_add {cl : Str → Addr} : OpR X (binaryOp .Add) (rS ⟨X.K, cl⟩ addW) := by
  intro pins s σ H x y v u Q I rx ry hr
  obtain ⟨F, ρ, m, w1, w2, w, r, q1, q2, e, k⟩ := hr
  unfold addW at e
  split at e
  · cases e
    exact op_add pins s σ H x y v u Q I rx ry ⟨_, _, q1.int, q2.int, k _ F ρ H r .refl rfl⟩
  · split at e
    · rename_i hz
      cases e
      exact op_add_str pins s σ H x y v u Q I rx ry ⟨_, _, q1.str, q2.str, hz, k _ F ρ H r .refl rfl⟩
    · cases e
  · split at e
    · rename_i a b hz
      cases e
      obtain ⟨a1, vs1, rfl, s1, t1⟩ := q1.tup r
      obtain ⟨a2, vs2, rfl, s2, t2⟩ := q2.tup r
      have l1 := t1.length
      have l2 := t2.length
      cases rx
      cases ry
      obtain ⟨its, z1, p1, _⟩ := I.tuple s1
      obtain ⟨its2, z2, p2, _⟩ := I.tuple s2
      by_cases hx : vs1 = []
      · subst hx
        cases z1
        have ea : a = [] := List.length_eq_zero_iff.mp (by simpa using l1.symm)
        subst ea
        refine cat_tup0 p1 p2 ⟨.ref a2, H, I, rfl, k _ F ρ H r .refl ?_⟩
        exact (q2.scal fun o e => by cases o <;> cases e)
      · by_cases hy : vs2 = []
        · have eb : b = [] := List.length_eq_zero_iff.mp (by rw [← l2, hy]; rfl)
          refine op_catT pins s σ H (.ref a1) (.ref a2) _ _ Q I rfl rfl ⟨a1, a2, vs1, vs2, rfl, rfl, s1, s2, hx, by omega, fun _ => k _ F ρ H r .refl ?_, fun z => absurd hy z⟩
          rw [eb, List.append_nil]
          exact (q1.scal fun o e => by cases o <;> cases e)
        · exact op_catT pins s σ H (.ref a1) (.ref a2) _ _ Q I rfl rfl ⟨a1, a2, vs1, vs2, rfl, rfl, s1, s2, hx, by omega, fun z => absurd z hy, fun _ p n => k.newT r (t1.append t2) p n⟩
    · cases e
  · split at e
    · rename_i a b hz
      cases e
      obtain ⟨a1, vs1, rfl, s1, t1⟩ := q1.lst r
      obtain ⟨a2, vs2, rfl, s2, t2⟩ := q2.lst r
      have l1 := t1.length
      have l2 := t2.length
      cases rx
      cases ry
      exact cat_lists I s1 s2 (by omega) fun p n => k.newL r (t1.append t2) p n
    · cases e
  · cases e
end
end Sm

/-! S3: tests, statements. -/
namespace Sm
open PySem PySem.Spec PyProof.Rows L2

/-! ### tests -/
abbrev Ft := SS → M Bool
section
variable (c : Cn) (Wx : WX)
def OkT (F : Hp) (ρ : List Addr) (H : Hp) (Q : Bool → Hp → Prop) (b : Bool) (m' : Sto) : Prop := ∀ F' ρ' H', R c F' ρ' m' H' → Go F ρ H F' ρ' H' → Q b H'
def sT (f : Ft) : TT := fun σ H Q => ∃ F ρ m τ, R c F ρ m H ∧ RS c F ρ τ σ H ∧ Post (OkT c F ρ H Q) (OkX c F ρ H fun k d H' => Wx k d σ H') (f τ m)
end
abbrev ST (c : Cn) (X : Cx) (Wx : WX) (e : Expr) (f : Ft) : Prop := PT X e (sT c Wx f)
theorem PT.weak {X : Cx} {e : Expr} {t t' : TT} (h : PT X e t') (w : ∀ σ H Q, t σ H Q → t' σ H Q) : PT X e t := ⟨fun pins s σ H Q I q => h.run pins s σ H Q I (w _ _ _ q)⟩
theorem PW.weak {X : Cx} {e : Expr} {t t' : TT} (h : PW X e t') (w : ∀ σ H Q, t σ H Q → t' σ H Q) : PW X e t := ⟨fun wh pins s σ H Q I q => h.run wh pins s σ H Q I (w _ _ _ q)⟩
def truW : W → Sto → Option Bool
  | .non, _ => some false
  | .bl b, _ => some b
  | .int i, _ => some (i != 0)
  | .str x, _ => if x.length ≤ sizeLine then some ((x.length : Int) != 0) else none
  | .tup xs, _ => some (!xs.isEmpty)
  | .lst xs, _ => some (!xs.isEmpty)
  | _, _ => none
def tTru (f : Fe) : Ft := fun τ => bnd (f τ) fun w m => match truW w m with
  | some b => .ok b m
  | none => .bad
def blW : W → Option Bool
  | .bl b => some b
  | _ => none
def tBl (f : Fe) : Ft := fun τ => bnd (f τ) fun w m => match blW w with
  | some b => .ok b m
  | none => .bad
def tNt (f : Ft) : Ft := fun τ => bnd (f τ) fun b m => .ok (!b) m
def tAn (f g : Ft) : Ft := fun τ => bnd (f τ) fun b m => if b = true then g τ m else .ok false m
def tOrr (f g : Ft) : Ft := fun τ => bnd (f τ) fun b m => if b = true then .ok true m else g τ m

theorem isEmpty_RWs {c : Cn} {F : Hp} {ρ : List Addr} {ws : List W} {vs : List V} (h : RWs c F ρ ws vs) : ws.isEmpty = vs.isEmpty := by
  cases ws with
  | nil =>
    have e : vs = [] := h
    rw [e]
    rfl
  | cons w ws =>
    obtain ⟨v, r, rfl, _⟩ := h.inv
    rfl
section
variable {cl : Str → Addr} {X : Cx} {Wx : WX}
theorem tru_of {F : Hp} {ρ : List Addr} {H : Hp} {m : Sto} {w : W} {v : V} {b : Bool} (r : R ⟨X.K, cl⟩ F ρ m H) (q : RB ⟨X.K, cl⟩ F ρ H w v) (e : truW w m = some b) : TruV X.K v H b := by
  unfold truW at e
  split at e
  · cases e
    rw [q.non]
    rfl
  · cases e
    rw [q.bl]
    rfl
  · cases e
    rw [q.int]
    rfl
  · split at e
    · cases e
      rw [q.str]
      exact ⟨by assumption, rfl⟩
    · cases e
  · cases e
    obtain ⟨a, vs, rfl, s, t⟩ := q.tup r
    exact .inr (.inl ⟨vs, s, by rw [isEmpty_RWs t]⟩)
  · cases e
    obtain ⟨a, vs, rfl, s, t⟩ := q.lst r
    exact .inl ⟨vs, .inl s, by rw [isEmpty_RWs t]⟩
  · cases e
variable {a b : Expr} {fa : Fe} {f g : Ft} {pos : Pos} {rest : List Expr}
theorem t_truth (ha : SR ⟨X.K, cl⟩ X Wx a fa) (he : ∀ whole, isTrue a X.env whole = (do let v ← whole; standAt a.pos; holding [v] (truthy v)) := by intro _; rfl) : ST ⟨X.K, cl⟩ X Wx a (tTru fa) := by
  refine PT.weak (pt_truth ha he) fun σ H Q ⟨F, ρ, m, τ, r, s, p⟩ => ⟨F, ρ, m, τ, r, s, ?_⟩
  unfold tTru bnd at p
  cases e : fa τ m with
  | bad =>
    rw [e] at p
    exact p
  | exc x m' =>
    rw [e] at p
    exact p
  | ok w m1 =>
    rw [e] at p
    dsimp only at p
    intro v F1 ρ1 H1 r1 g1 q1
    cases e2 : truW w m1 with
    | none =>
      rw [e2] at p
      exact p.elim
    | some k =>
      rw [e2] at p
      exact ⟨k, tru_of r1 q1 e2, p F1 ρ1 H1 r1 g1⟩
/-- a comparison as a test -/
theorem t_of_cmp {c : Cn} {op : CmpOp} {gg : W → W → Sto → Option W} {fb : Fe} (ho : OpR X (compareOp op) (rS c gg)) (ha : SR c X Wx a fa) (hb : SR c X Wx b fb) (hm : behindInMarks op b = false := by first | exact nomark _ | rfl | with_unfolding_all rfl) :
    ST c X Wx (.Compare a [op] [b] pos) (tBl (op2 gg fa fb)) := by
  refine PT.weak (pt_cmpR ho ha hb hm) fun σ H Q ⟨F, ρ, m, τ, r, s, p⟩ => ?_
  refine w_op2 (Wx := Wx) (Q := fun x H' => ∃ k, x = V.bl k ∧ Q k H') ⟨F, ρ, m, τ, r, s, ?_⟩
  unfold tBl bnd at p
  cases e : op2 gg fa fb τ m with
  | bad =>
    rw [e] at p
    exact p
  | exc x m' =>
    rw [e] at p
    exact p
  | ok w m1 =>
    rw [e] at p
    dsimp only at p
    cases w with
    | bl k => exact fun v F1 ρ1 H1 r1 g1 q1 => ⟨k, q1, p F1 ρ1 H1 r1 g1⟩
    | _ => exact p.elim
variable {c : Cn}
theorem t_not (ha : ST c X Wx a f) : ST c X Wx (.UnaryOp .Not a pos) (tNt f) := PT.weak (pt_not ha) fun σ H Q ⟨F, ρ, m, τ, r, s, p⟩ => ⟨F, ρ, m, τ, r, s, by
  unfold tNt bnd at p
  cases e : f τ m <;> (rw [e] at p; exact p)⟩
theorem t_and1 (ha : ST c X Wx a f) : PW X (.BoolOp .And [a] pos) (sT c Wx f) := pw_and1 ha
theorem t_or1 (ha : ST c X Wx a f) : PW X (.BoolOp .Or [a] pos) (sT c Wx f) := pw_or1 ha
theorem t_and (ha : ST c X Wx a f) (hb : PW X (.BoolOp .And (b :: rest) pos) (sT c Wx g)) : PW X (.BoolOp .And (a :: b :: rest) pos) (sT c Wx (tAn f g)) := PW.weak (pw_and ha hb) fun σ H Q ⟨F, ρ, m, τ, r, s, p⟩ => ⟨F, ρ, m, τ, r, s, by
  unfold tAn bnd at p
  cases e : f τ m with
  | bad =>
    rw [e] at p
    exact p
  | exc x m' =>
    rw [e] at p
    exact p
  | ok k m1 =>
    rw [e] at p
    dsimp only at p
    intro F1 ρ1 H1 r1 g1
    cases k with
    | true =>
      rw [if_pos rfl] at p ⊢
      refine ⟨F1, ρ1, m1, τ, r1, s.go g1, ?_⟩
      cases e2 : g τ m1 with
      | ok k2 m2 =>
        rw [e2] at p
        exact fun F2 ρ2 H2 r2 g2 => p F2 ρ2 H2 r2 (g1.trans g2)
      | exc x m' =>
        rw [e2] at p
        exact OkX.back r1 g1 p
      | bad =>
        rw [e2] at p
        exact p
    | false =>
      rw [if_neg Bool.false_ne_true] at p ⊢
      exact p F1 ρ1 H1 r1 g1⟩
theorem t_or (ha : ST c X Wx a f) (hb : PW X (.BoolOp .Or (b :: rest) pos) (sT c Wx g)) : PW X (.BoolOp .Or (a :: b :: rest) pos) (sT c Wx (tOrr f g)) := PW.weak (pw_or ha hb) fun σ H Q ⟨F, ρ, m, τ, r, s, p⟩ => ⟨F, ρ, m, τ, r, s, by
  unfold tOrr bnd at p
  cases e : f τ m with
  | bad =>
    rw [e] at p
    exact p
  | exc x m' =>
    rw [e] at p
    exact p
  | ok k m1 =>
    rw [e] at p
    dsimp only at p
    intro F1 ρ1 H1 r1 g1
    cases k with
    | false =>
      rw [if_neg Bool.false_ne_true] at p ⊢
      refine ⟨F1, ρ1, m1, τ, r1, s.go g1, ?_⟩
      cases e2 : g τ m1 with
      | ok k2 m2 =>
        rw [e2] at p
        exact fun F2 ρ2 H2 r2 g2 => p F2 ρ2 H2 r2 (g1.trans g2)
      | exc x m' =>
        rw [e2] at p
        exact OkX.back r1 g1 p
      | bad =>
        rw [e2] at p
        exact p
    | true =>
      rw [if_pos rfl] at p ⊢
      exact p F1 ρ1 H1 r1 g1⟩
end

/-! ### statements -/
structure Bs where
  F : Hp
  ρ : List Addr
  H : Hp
  self : Option Addr
structure Fr (c : Cn) (B : Bs) (F : Hp) (ρ : List Addr) (m : Sto) (τ : SS) (σ : L2.St) (H : Hp) : Prop where
  r : R c F ρ m H
  s : RS c F ρ τ σ H
  g : Go B.F B.ρ B.H F ρ H
  fresh : ∀ (i : Nat) (o : MO) (a : Addr), τ[i]? = some (.own o) → σ[i]? = some (some (V.ref a)) → B.H a = none
  slf : ∀ (o : MO) (a : Addr), B.self = some a → τ[0]? = some (.own o) → σ[0]? = some (some (V.ref a))
section
variable (c : Cn) (Wx : WX) (B : Bs)
def okS (D : Ends) : Out → Sto → Prop
  | .nx τ', m' => ∀ σ' F' ρ' H', Fr c B F' ρ' m' τ' σ' H' → D.nx σ' H'
  | .rt w, m' => ∀ v F' ρ' H', R c F' ρ' m' H' → Go B.F B.ρ B.H F' ρ' H' → RW c F' ρ' w v → D.rt v H'
  | .bk τ', m' => ∀ σ' F' ρ' H', Fr c B F' ρ' m' τ' σ' H' → D.bk σ' H'
  | .ct τ', m' => ∀ σ' F' ρ' H', Fr c B F' ρ' m' τ' σ' H' → D.ct σ' H'
  | .ex x τ', m' => ∀ k d σ' F' ρ' H', Fr c B F' ρ' m' τ' σ' H' → XR c B.H F' ρ' H' x k d → Wx k d σ' H'
def sS (f : Fs) : TS := fun D σ H => ∃ F ρ m τ, Fr c B F ρ m τ σ H ∧ Post (okS c Wx B D) (fun _ _ => False) (f τ m)
end
abbrev SX (c : Cn) (X : Cx) (Wx : WX) (B : Bs) (st : Stmt) (f : Fs) : Prop := PS X st (sS c Wx B f)
abbrev SXs (c : Cn) (X : Cx) (Wx : WX) (B : Bs) (st : List Stmt) (f : Fs) : Prop := PSs X st (sS c Wx B f)

section
variable {c : Cn} {X : Cx} {Wx : WX} {B : Bs} {F F' : Hp} {ρ ρ' : List Addr} {m m' : Sto} {τ : SS} {σ : L2.St} {H H' : Hp}
theorem Fr.go (x : Fr c B F ρ m τ σ H) (r : R c F' ρ' m' H') (g : Go F ρ H F' ρ' H') : Fr c B F' ρ' m' τ σ H' := ⟨r, x.s.go g, x.g.trans g, x.fresh, x.slf⟩
theorem XR.base {F1 : Hp} {ρ1 : List Addr} {H1 : Hp} {x : Ex} {k : Value} {d : Option Addr} (fr : Fr c B F ρ m τ σ H) (h : XR c H F1 ρ1 H1 x k d) : XR c B.H F1 ρ1 H1 x k d := by
  refine h.back fr.g fr.g.nn (fun a q => ?_)
  obtain ⟨i, hi⟩ := List.getElem?_of_mem q
  exact fr.r.live a (List.mem_of_getElem? (fr.g.pre i a hi))
/-- an expression within a statement -/
theorem Fr.ex {D : Ends} {x : Ex} (fr : Fr c B F ρ m τ σ H) (h : okS c Wx B D (.ex x τ) m') : OkX c F ρ H (fun k d H' => Wx k d σ H') x m' := fun k d F1 ρ1 H1 r1 g1 q => h k d σ F1 ρ1 H1 (fr.go r1 g1) (XR.base fr q)

def exS {α : Type} (r : Res α) (τ : SS) (k : α → Sto → Res Out) : Res Out := match r with
  | .ok a m => k a m
  | .exc x m => .ok (.ex x τ) m
  | .bad => .bad

def sNil : Fs := fun τ m => .ok (.nx τ) m
def sSeq (f g : Fs) : Fs := fun τ m => match f τ m with
  | .ok (.nx τ') m' => g τ' m'
  | r => r
theorem x_nil : SXs c X Wx B [] sNil := PSs.weak pss_nil fun D σ H ⟨F, ρ, m, τ, fr, p⟩ => p σ F ρ H fr
theorem x_cons {st : Stmt} {rest : List Stmt} {f g : Fs} (h1 : SX c X Wx B st f) (h2 : SXs c X Wx B rest g) : SXs c X Wx B (st :: rest) (sSeq f g) := PSs.weak (pss_cons h1 h2) fun D σ H ⟨F, ρ, m, τ, fr, p⟩ => by
  refine ⟨F, ρ, m, τ, fr, ?_⟩
  unfold sSeq at p
  cases e : f τ m with
  | bad =>
    rw [e] at p
    exact p
  | exc x m' =>
    rw [e] at p
    exact p
  | ok o m1 =>
    rw [e] at p
    cases o with
    | nx τ1 => exact fun σ1 F1 ρ1 H1 fr1 => ⟨F1, ρ1, m1, τ1, fr1, p⟩
    | rt w => exact p
    | bk τ1 => exact p
    | ct τ1 => exact p
    | ex x τ1 => exact p
theorem x_one {st : Stmt} {f : Fs} (h1 : SX c X Wx B st f) : SXs c X Wx B [st] f := pss_one h1
theorem x_pass {pos : Pos} : SX c X Wx B (.Pass pos) sNil := PS.weak ps_pass fun D σ H ⟨F, ρ, m, τ, fr, p⟩ => p σ F ρ H fr
theorem x_doc {x j pos pos'} : SX c X Wx B (.Expr (.Constant (.str x) j pos) pos') sNil := PS.weak ps_doc fun D σ H ⟨F, ρ, m, τ, fr, p⟩ => p σ F ρ H fr
def sBrk : Fs := fun τ m => .ok (.bk τ) m
def sCnt : Fs := fun τ m => .ok (.ct τ) m
theorem x_break {pos : Pos} : SX c X Wx B (.Break pos) sBrk := PS.weak ps_break fun D σ H ⟨F, ρ, m, τ, fr, p⟩ => p σ F ρ H fr
theorem x_cont {pos : Pos} : SX c X Wx B (.Continue pos) sCnt := PS.weak ps_continue fun D σ H ⟨F, ρ, m, τ, fr, p⟩ => p σ F ρ H fr

/-- the worth of an expression, then k -/
theorem useE {f : Fe} {k : W → Sto → Res Out} {Q : VK} {D : Ends} (fr : Fr c B F ρ m τ σ H) (p : Post (okS c Wx B D) (fun _ _ => False) (exS (f τ m) τ k))
    (h : ∀ w m' v F' ρ' H', Fr c B F' ρ' m' τ σ H' → RW c F' ρ' w v → Post (okS c Wx B D) (fun _ _ => False) (k w m') → Q v H') : sE c Wx f σ H Q := by
  refine ⟨F, ρ, m, τ, fr.r, fr.s, ?_⟩
  unfold exS at p
  cases e : f τ m with
  | bad =>
    rw [e] at p
    exact p
  | exc x m' =>
    rw [e] at p
    exact Fr.ex (D := D) fr p
  | ok w m1 =>
    rw [e] at p
    exact fun v F1 ρ1 H1 r1 g1 q => h w m1 v F1 ρ1 H1 (fr.go r1 g1) q p
theorem useR {f : Fe} {k : W → Sto → Res Out} {Q : VK} {D : Ends} (fr : Fr c B F ρ m τ σ H) (p : Post (okS c Wx B D) (fun _ _ => False) (exS (f τ m) τ k))
    (h : ∀ w m' v F' ρ' H', Fr c B F' ρ' m' τ σ H' → RB c F' ρ' H' w v → Post (okS c Wx B D) (fun _ _ => False) (k w m') → Q v H') : sW c Wx f σ H Q := by
  refine ⟨F, ρ, m, τ, fr.r, fr.s, ?_⟩
  unfold exS at p
  cases e : f τ m with
  | bad =>
    rw [e] at p
    exact p
  | exc x m' =>
    rw [e] at p
    exact Fr.ex (D := D) fr p
  | ok w m1 =>
    rw [e] at p
    exact fun v F1 ρ1 H1 r1 g1 q => h w m1 v F1 ρ1 H1 (fr.go r1 g1) q p
theorem useT {f : Ft} {k : Bool → Sto → Res Out} {Q : Bool → Hp → Prop} {D : Ends} (fr : Fr c B F ρ m τ σ H) (p : Post (okS c Wx B D) (fun _ _ => False) (exS (f τ m) τ k))
    (h : ∀ b m' F' ρ' H', Fr c B F' ρ' m' τ σ H' → Post (okS c Wx B D) (fun _ _ => False) (k b m') → Q b H') : sT c Wx f σ H Q := by
  refine ⟨F, ρ, m, τ, fr.r, fr.s, ?_⟩
  unfold exS at p
  cases e : f τ m with
  | bad =>
    rw [e] at p
    exact p
  | exc x m' =>
    rw [e] at p
    exact Fr.ex (D := D) fr p
  | ok w m1 =>
    rw [e] at p
    exact fun F1 ρ1 H1 r1 g1 => h w m1 F1 ρ1 H1 (fr.go r1 g1) p
variable {e : Expr} {f : Fe} {pos : Pos}
def sExp (f : Fe) : Fs := fun τ m => exS (f τ m) τ fun _ m' => .ok (.nx τ) m'
def sRet (f : Fe) : Fs := fun τ m => exS (f τ m) τ fun w m' => .ok (.rt w) m'
def sRetN : Fs := fun τ m => .ok (.rt .non) m
def sIf (f : Ft) (g h : Fs) : Fs := fun τ m => exS (f τ m) τ fun b m' => if b = true then g τ m' else h τ m'
theorem x_expr (he : SE c X Wx e f) (hs : swapsWith e none pos.line X.env = pure false := by rfl) : SX c X Wx B (.Expr e pos) (sExp f) := PS.weak (ps_expr he hs) fun D σ H ⟨F, ρ, m, τ, fr, p⟩ =>
  useE fr p fun w m' v F' ρ' H' fr' _ q => q σ F' ρ' H' fr'
theorem x_ret (he : SE c X Wx e f) : SX c X Wx B (.Return (some e) pos) (sRet f) := PS.weak (ps_ret he) fun D σ H ⟨F, ρ, m, τ, fr, p⟩ =>
  useE fr p fun w m' v F' ρ' H' fr' r q => q v F' ρ' H' fr'.r fr'.g r
theorem x_retN : SX c X Wx B (.Return none pos) sRetN := PS.weak ps_retN fun D σ H ⟨F, ρ, m, τ, fr, p⟩ => p _ F ρ H fr.r fr.g rfl
theorem x_if {t : Expr} {ft : Ft} {a b : List Stmt} {g h : Fs} (ht : ST c X Wx t ft) (ha : SXs c X Wx B a g) (hb : SXs c X Wx B b h) : SX c X Wx B (.If t a b pos) (sIf ft g h) := PS.weak (ps_if ht ha hb) fun D σ H ⟨F, ρ, m, τ, fr, p⟩ =>
  useT fr p fun k m' F' ρ' H' fr' q => by
    cases k with
    | true =>
      rw [if_pos rfl] at q ⊢
      exact ⟨F', ρ', m', τ, fr', q⟩
    | false =>
      rw [if_neg Bool.false_ne_true] at q ⊢
      exact ⟨F', ρ', m', τ, fr', q⟩

/-! ### stores of names -/
theorem get_set {α : Type} {l : List α} {i j : Nat} {x y : α} (h : (l.set i x)[j]? = some y) : (i = j ∧ x = y) ∨ (i ≠ j ∧ l[j]? = some y) := by
  by_cases e : i = j
  · subst e
    rw [List.getElem?_set_self'] at h
    cases q : l[i]? with
    | none =>
      rw [q] at h
      cases h
    | some z =>
      rw [q] at h
      exact .inl ⟨rfl, Option.some.inj h⟩
  · rw [List.getElem?_set_ne e] at h
    exact .inr ⟨e, h⟩
theorem set_get {α : Type} {l : List α} {i : Nat} {x : α} (h : i < l.length) : (l.set i x)[i]? = some x := by simp [h]
theorem RS.setv {i : Nat} {w : W} {v : V} (s : RS c F ρ τ σ H) (hw : RW c F ρ w v) : RS c F ρ (τ.set i (.val w)) (σ.set i (some v)) H := by
  refine ⟨by rw [List.length_set, List.length_set, s.len], fun j u h => ?_, fun j o h => ?_, fun j k o o' a n h1 h2 h3 h4 => ?_⟩
  · rcases get_set h with ⟨rfl, e⟩ | ⟨ne, h⟩
    · cases e
      have hl : i < (τ.set i (Sl.val w)).length := (List.getElem?_eq_some_iff.mp h).1
      rw [List.length_set, s.len] at hl
      exact ⟨v, set_get hl, hw⟩
    · obtain ⟨v', q, r⟩ := s.val j u h
      exact ⟨v', by rw [List.getElem?_set_ne ne]; exact q, r⟩
  · rcases get_set h with ⟨rfl, e⟩ | ⟨ne, h⟩
    · cases e
    · obtain ⟨a, u, q, r⟩ := s.own j o h
      exact ⟨a, u, by rw [List.getElem?_set_ne ne]; exact q, r⟩
  · rcases get_set h1 with ⟨_, e⟩ | ⟨n1, h1⟩
    · cases e
    · rcases get_set h2 with ⟨_, e⟩ | ⟨n2, h2⟩
      · cases e
      · rw [List.getElem?_set_ne n1] at h3
        rw [List.getElem?_set_ne n2] at h4
        exact s.nd j k o o' a n h1 h2 h3 h4
theorem RS.seto {i : Nat} {o : MO} {a : Addr} {u : HO} (s : RS c F ρ τ σ H) (h1 : F a = none) (h2 : a ∉ ρ) (h3 : H a = some u) (h4 : OR c F ρ a o u)
    (h5 : ∀ (j : Nat) (o' : MO), j ≠ i → τ[j]? = some (.own o') → σ[j]? ≠ some (some (V.ref a))) : RS c F ρ (τ.set i (.own o)) (σ.set i (some (.ref a))) H := by
  refine ⟨by rw [List.length_set, List.length_set, s.len], fun j u h => ?_, fun j o h => ?_, fun j k o1 o2 b n q1 q2 q3 q4 => ?_⟩
  · rcases get_set h with ⟨rfl, e⟩ | ⟨ne, h⟩
    · cases e
    · obtain ⟨v', q, r⟩ := s.val j u h
      exact ⟨v', by rw [List.getElem?_set_ne ne]; exact q, r⟩
  · rcases get_set h with ⟨rfl, e⟩ | ⟨ne, h⟩
    · cases e
      have hl : i < (τ.set i (Sl.own o)).length := (List.getElem?_eq_some_iff.mp h).1
      rw [List.length_set, s.len] at hl
      exact ⟨a, u, set_get hl, h1, h2, h3, h4⟩
    · obtain ⟨a, u, q, r⟩ := s.own j o h
      exact ⟨a, u, by rw [List.getElem?_set_ne ne]; exact q, r⟩
  · rcases get_set q1 with ⟨e1, _⟩ | ⟨n1, q1⟩
    · subst e1
      rcases get_set q2 with ⟨e2, _⟩ | ⟨n2, q2⟩
      · exact n e2
      · rw [List.getElem?_set_ne n2] at q4
        have hl : i < (σ.set i (some (V.ref a))).length := (List.getElem?_eq_some_iff.mp q3).1
        rw [List.length_set] at hl
        rw [set_get hl] at q3
        cases q3
        exact h5 k o2 (Ne.symm n) q2 q4
    · rw [List.getElem?_set_ne n1] at q3
      rcases get_set q2 with ⟨e2, _⟩ | ⟨n2, q2⟩
      · subst e2
        have hl : i < (σ.set i (some (V.ref a))).length := (List.getElem?_eq_some_iff.mp q4).1
        rw [List.length_set] at hl
        rw [set_get hl] at q4
        cases q4
        exact h5 j o1 n q1 q3
      · rw [List.getElem?_set_ne n2] at q4
        exact s.nd j k o1 o2 b n q1 q2 q3 q4
theorem Fr.setv {i : Nat} {w : W} {v : V} (x : Fr c B F ρ m τ σ H) (hw : RW c F ρ w v) : Fr c B F ρ m (τ.set i (.val w)) (σ.set i (some v)) H := by
  refine ⟨x.r, x.s.setv hw, x.g, fun j o a h1 h2 => ?_, fun o a e h1 => ?_⟩
  · rcases get_set h1 with ⟨_, e⟩ | ⟨ne, h1⟩
    · cases e
    · rw [List.getElem?_set_ne ne] at h2
      exact x.fresh j o a h1 h2
  · rcases get_set h1 with ⟨_, e⟩ | ⟨ne, h1⟩
    · cases e
    · rw [List.getElem?_set_ne ne]
      exact x.slf o a e h1
def sSet (i : Nat) (f : Fe) : Fs := fun τ m => exS (f τ m) τ fun w m' => .ok (.nx (τ.set i (.val w))) m'
theorem x_set {i : Nat} {x : Str} {pos' : Pos} (hN : X.N.Nodup) (hi : X.N[i]? = some x) (hx : Loc X.env.scope x) (he : SE c X Wx e f) (hs : swapsWith e (some (.Name x pos')) pos.line X.env = pure false := by rfl)
    (hf : X.fn x = true ∨ X.env.scope.names.lookup x = some .local := by first | exact .inl rfl | exact .inr rfl | assumption) : SX c X Wx B (.Assign [.Name x pos'] e pos) (sSet i f) := PS.weak (ps_set hN hi hx he hs hf) fun D σ H ⟨F, ρ, m, τ, fr, p⟩ =>
  useE fr p fun w m' v F' ρ' H' fr' r q => q _ F' ρ' H' (fr'.setv r)
end
end Sm

/-! S4: argument lists, displays, loops, calls, defs. -/
namespace Sm
open PySem PySem.Spec PyProof.Rows L2

/-- what a body may lean on -/
structure Ctx (X : Cx) (Wx : WX) (k : Nat) : Prop where
  calm : X.calm = true
  tk : Takes X Wx
  po : PassesOwn (model X.prog X.w) X.A X.env X.xe
  hr : Room k X.A
  nd : X.N.Nodup

/-! ### argument lists, displays -/
def aNil : Fas := fun _ m => .ok [] m
def aCons (f : Fe) (g : Fas) : Fas := fun τ => bnd (f τ) fun w => bnd (g τ) fun ws m => .ok (w :: ws) m
section
variable {c : Cn} {X : Cx} {Wx : WX} {e : Expr} {es : List Expr} {f : Fe} {g : Fas} {pos : Pos}
theorem a_nil : SA c X Wx [] aNil := PA.weak pa_nil fun σ H Q ⟨F, ρ, m, τ, r, s, p⟩ => p [] F ρ H r .refl rfl
theorem w_acons {σ : L2.St} {H : Hp} {Q : List V → Hp → Prop} (h : sA c Wx (aCons f g) σ H Q) : tCons (sE c Wx f) (sA c Wx g) σ H Q := by
  obtain ⟨F, ρ, m, τ, r, s, p⟩ := h
  refine ⟨F, ρ, m, τ, r, s, ?_⟩
  unfold aCons bnd at p
  cases e : f τ m with
  | bad =>
    rw [e] at p
    exact p
  | exc x m' =>
    rw [e] at p
    exact p
  | ok w m1 =>
    rw [e] at p
    dsimp only at p
    intro v F1 ρ1 H1 r1 g1 q1
    refine ⟨F1, ρ1, m1, τ, r1, s.go g1, ?_⟩
    cases e2 : g τ m1 with
    | bad =>
      rw [e2] at p
      exact p
    | exc x m' =>
      rw [e2] at p
      exact OkX.back r1 g1 p
    | ok ws m2 =>
      rw [e2] at p
      exact fun vs F2 ρ2 H2 r2 g2 q2 => p (v :: vs) F2 ρ2 H2 r2 (g1.trans g2) (.cons (q1.mono g2.ff g2.pre) q2)
theorem a_cons (he : SE c X Wx e f) (hs : SA c X Wx es g) (hst : starEach (e :: es) X.env = (false, eval e X.env) :: starEach es X.env := by rfl) : SA c X Wx (e :: es) (aCons f g) := PA.weak (pa_cons he hs hst) fun _ _ _ h => w_acons h
def eTup (g : Fas) : Fe := fun τ => bnd (g τ) fun ws m => if ws.length ≤ sizeLine then .ok (.tup ws) m else .bad
def eLst (g : Fas) : Fe := fun τ => bnd (g τ) fun ws m => if ws.length ≤ sizeLine then .ok (.lst ws) m else .bad
theorem w_disp {mk : List W → W} {σ : L2.St} {H : Hp} {Q : VK} {Q2 : List V → Hp → Prop} (h : sE c Wx (fun τ => bnd (g τ) fun ws m => if ws.length ≤ sizeLine then .ok (mk ws) m else .bad) σ H Q)
    (hk : ∀ ws m F' ρ' H' vs, R c F' ρ' m H' → RWs c F' ρ' ws vs → ws.length ≤ sizeLine → OkE c F' ρ' H' Q (mk ws) m → Q2 vs H') : sA c Wx g σ H Q2 := by
  obtain ⟨F, ρ, m, τ, r, s, p⟩ := h
  refine ⟨F, ρ, m, τ, r, s, ?_⟩
  unfold bnd at p
  dsimp only at p
  cases e : g τ m with
  | bad =>
    rw [e] at p
    exact p
  | exc x m' =>
    rw [e] at p
    exact p
  | ok ws m1 =>
    rw [e] at p
    dsimp only at p
    intro vs F1 ρ1 H1 r1 g1 q1
    split at p
    · exact hk ws m1 F1 ρ1 H1 vs r1 q1 (by assumption) (OkE.back g1 p)
    · exact p.elim
theorem s_tup {x1} (h : SA c X Wx es g) : SE c X Wx (.Tuple es x1 pos) (eTup g) := PE.weak (pe_tup h) fun σ H Q p => w_disp p fun ws m F' ρ' H' vs r q hl k => ⟨by rw [q.length]; exact hl, fun a n => k.newT r q a n⟩
theorem s_lst (h : SA c X Wx es g) : SE c X Wx (.List es pos) (eLst g) := PE.weak (pe_lst h) fun σ H Q p => w_disp p fun ws m F' ρ' H' vs r q hl k => ⟨by rw [q.length]; exact hl, fun a n => k.newL r q a n⟩
end

/-! ### an own list -/
section
variable {c : Cn} {X : Cx} {Wx : WX} {B : Bs} {F F' : Hp} {ρ ρ' : List Addr} {m m' : Sto} {τ : SS} {σ : L2.St} {H H' : Hp} {e : Expr} {es : List Expr} {f : Fe} {g : Fas} {pos : Pos}
theorem useA {k : List W → Sto → Res Out} {Q : List V → Hp → Prop} {D : Ends} (fr : Fr c B F ρ m τ σ H) (p : Post (okS c Wx B D) (fun _ _ => False) (exS (g τ m) τ k))
    (h : ∀ w m' v F' ρ' H', Fr c B F' ρ' m' τ σ H' → RWs c F' ρ' w v → Post (okS c Wx B D) (fun _ _ => False) (k w m') → Q v H') : sA c Wx g σ H Q := by
  refine ⟨F, ρ, m, τ, fr.r, fr.s, ?_⟩
  unfold exS at p
  cases e : g τ m with
  | bad =>
    rw [e] at p
    exact p
  | exc x m' =>
    rw [e] at p
    exact Fr.ex (D := D) fr p
  | ok w m1 =>
    rw [e] at p
    exact fun v F1 ρ1 H1 r1 g1 q => h w m1 v F1 ρ1 H1 (fr.go r1 g1) q p
/-- a new own object at a free place -/
theorem Fr.seto {i : Nat} {o : MO} {a : Addr} {u : HO} (x : Fr c B F ρ m τ σ H) (i0 : i ≠ 0) (n : H a = none) (q : OR c F ρ a o u) : Fr c B F ρ m (τ.set i (.own o)) (σ.set i (some (.ref a))) (upd H a u) := by
  obtain ⟨r1, g1⟩ := x.r.newH n u
  have y := x.go r1 g1
  have nb : B.H a = none := by
    cases e : B.H a with
    | none => rfl
    | some z =>
      have hn : a ∉ B.ρ := fun w => by
        obtain ⟨j, hj⟩ := List.getElem?_of_mem w
        exact x.r.live a (List.mem_of_getElem? (x.g.pre j a hj)) n
      rw [x.g.keep a z e hn] at n
      cases n
  refine ⟨r1, y.s.seto (x.r.fnone n) (x.r.notin n) upd_same q fun j o' ne h1 h2 => ?_, y.g, fun j o' b h1 h2 => ?_, fun o' b e h1 => ?_⟩
  · obtain ⟨b, h, e1, _, _, e2, _⟩ := x.s.own j o' h1
    rw [h2] at e1
    cases e1
    rw [n] at e2
    cases e2
  · rcases get_set h1 with ⟨e1, _⟩ | ⟨ne, h1⟩
    · subst e1
      have hl : i < (σ.set i (some (V.ref a))).length := (List.getElem?_eq_some_iff.mp h2).1
      rw [List.length_set] at hl
      rw [set_get hl] at h2
      cases h2
      exact nb
    · rw [List.getElem?_set_ne ne] at h2
      exact x.fresh j o' b h1 h2
  · rcases get_set h1 with ⟨e1, _⟩ | ⟨ne, h1⟩
    · exact absurd e1 i0
    · rw [List.getElem?_set_ne ne]
      exact x.slf o' b e h1
/-- x = [..], a list that x alone holds -/
def sSetL (i : Nat) (g : Fas) : Fs := fun τ m => exS (g τ m) τ fun ws m' => if ws.length ≤ sizeLine then .ok (.nx (τ.set i (.own (.lst ws)))) m' else .bad
theorem x_setL {i : Nat} {x : Str} {pos' pos2 : Pos} (hN : X.N.Nodup) (hi : X.N[i]? = some x) (hx : Loc X.env.scope x) (h : SA c X Wx es g) (i0 : i ≠ 0 := by decide) (hs : swapsWith (.List es pos2) (some (.Name x pos')) pos.line X.env = pure false := by rfl)
    (hf : X.fn x = true ∨ X.env.scope.names.lookup x = some .local := by first | exact .inl rfl | exact .inr rfl | assumption) : SX c X Wx B (.Assign [.Name x pos'] (.List es pos2) pos) (sSetL i g) :=
  PS.weak (ps_set hN hi hx (pe_lst h) hs hf) fun D σ H ⟨F, ρ, m, τ, fr, p⟩ => useA fr p fun ws m' vs F' ρ' H' fr' r q => by
    split at q
    · rename_i hl
      refine ⟨by rw [r.length]; exact hl, fun a n => ?_⟩
      exact q _ _ _ _ (fr'.seto i0 n ⟨vs, rfl, r⟩)
    · exact q.elim
/-- an own object changes -/
theorem Fr.upd_own {i : Nat} {o o' : MO} {a : Addr} {u : HO} (x : Fr c B F ρ m τ σ H) (h : τ[i]? = some (.own o)) (hs : σ[i]? = some (some (V.ref a))) (q : OR c F ρ a o' u) : Fr c B F ρ m (τ.set i (.own o')) σ (upd H a u) := by
  obtain ⟨b, h0, e1, e2, e3, e4, e5⟩ := x.s.own i o h
  rw [hs] at e1
  cases e1
  have nb := x.fresh i o a h hs
  have lenτ : i < τ.length := (List.getElem?_eq_some_iff.mp h).1
  refine ⟨⟨fun b z e => ?_, x.r.len, x.r.nd, x.r.off, fun j b oo h1 h2 => ?_⟩, ⟨by rw [List.length_set]; exact x.s.len, fun j w h1 => ?_, fun j oo h1 => ?_, fun j k o1 o2 b n h1 h2 h3 h4 => ?_⟩, ⟨x.g.ff, x.g.pre, fun b z e hn => ?_, fun b z e hn => x.g.off b z e hn⟩, fun j oo b h1 h2 => ?_, fun oo b e h1 => ?_⟩
  · rw [upd_ne (fun z => by rw [z, e2] at e; cases e)]
    exact x.r.sub b z e
  · obtain ⟨ho, h5, h6⟩ := x.r.at_ j b oo h1 h2
    exact ⟨ho, by rw [upd_ne (fun z => e3 (by rw [← z]; exact List.mem_of_getElem? h1))]; exact h5, h6⟩
  · rcases get_set h1 with ⟨_, e⟩ | ⟨ne, h1⟩
    · cases e
    · exact x.s.val j w h1
  · rcases get_set h1 with ⟨e, e'⟩ | ⟨ne, h1⟩
    · subst e
      cases e'
      exact ⟨a, u, hs, e2, e3, upd_same, q⟩
    · obtain ⟨b, hb, k1, k2, k3, k4, k5⟩ := x.s.own j oo h1
      exact ⟨b, hb, k1, k2, k3, by rw [upd_ne (fun z => by subst z; exact x.s.nd i j o oo b ne h h1 hs k1)]; exact k4, k5⟩
  · have old : ∀ {k : Nat} {oo : MO}, (τ.set i (.own o'))[k]? = some (.own oo) → ∃ o2, τ[k]? = some (.own o2) := fun {k oo} hk => by
      rcases get_set hk with ⟨e, _⟩ | ⟨ne, hk⟩
      · subst e
        exact ⟨o, h⟩
      · exact ⟨oo, hk⟩
    obtain ⟨p1, g1⟩ := old h1
    obtain ⟨p2, g2⟩ := old h2
    exact x.s.nd j k p1 p2 b n g1 g2 h3 h4
  · rw [upd_ne (fun z => by rw [z, nb] at e; cases e)]
    exact x.g.keep b z e hn
  · rcases get_set h1 with ⟨e, _⟩ | ⟨ne, h1⟩
    · subst e
      rw [hs] at h2
      cases h2
      exact nb
    · exact x.fresh j oo b h1 h2
  · rcases get_set h1 with ⟨e1, _⟩ | ⟨ne, h1⟩
    · subst e1
      exact x.slf o b e h
    · exact x.slf oo b e h1
/-- a dict is locked otherwise -/
def frzb : MO → Bool
  | .dK _ _ => false
  | .dT _ _ => false
  | _ => true
/-- from now on it does not change -/
theorem Fr.freeze {i : Nat} {o : MO} (x : Fr c B F ρ m τ σ H) (hz : frzb o = true) (h : τ[i]? = some (.own o)) : ∃ F', Fr c B F' ρ m (τ.set i (.val (toW o))) σ H := by
  obtain ⟨a, u, e1, e2, e3, e4, e5⟩ := x.s.own i o h
  have fs : Same F (upd F a u) := upd_new e2
  have nb := x.fresh i o a h e1
  have lenτ : i < τ.length := (List.getElem?_eq_some_iff.mp h).1
  refine ⟨upd F a u, ⟨fun b z e => ?_, x.r.len, x.r.nd, fun b hb => ?_, fun j b oo h1 h2 => ?_⟩, ⟨by rw [List.length_set]; exact x.s.len, fun j w h1 => ?_, fun j oo h1 => ?_, fun j k o1 o2 b n h1 h2 h3 h4 => ?_⟩, ⟨x.g.ff.trans fs, x.g.pre, x.g.keep, fun b z e hn => ⟨(x.g.off b z e hn).1, fun w => ?_⟩⟩, fun j oo b h1 h2 => ?_, fun oo b e h1 => ?_⟩
  · by_cases hb : b = a
    · subst hb
      rw [upd_same] at e
      cases e
      exact e4
    · rw [upd_ne hb] at e
      exact x.r.sub b z e
  · rw [upd_ne (fun z => e3 (by rw [← z]; exact hb))]
    exact x.r.off b hb
  · obtain ⟨ho, h5, h6⟩ := x.r.at_ j b oo h1 h2
    exact ⟨ho, h5, h6.mono fs (.refl _)⟩
  · rcases get_set h1 with ⟨e, e'⟩ | ⟨ne, h1⟩
    · subst e
      cases e'
      refine ⟨_, e1, ?_⟩
      cases o with
      | lst xs =>
        obtain ⟨vs, rfl, t⟩ := e5
        show RW c _ ρ (.lst xs) _
        unfold RW
        exact ⟨a, vs, rfl, .inl upd_same, t.mono fs (.refl _)⟩
      | ins C ns vs =>
        obtain ⟨dx, gs, rfl, n, t⟩ := e5
        show RW c _ ρ (.obj C ns vs) _
        unfold RW
        exact ⟨a, dx, gs, rfl, upd_same, n, t.mono fs (.refl _)⟩
      | tin C ns vs kids =>
        obtain ⟨dx, gs, t, rr, rfl, n, z, l, y, k⟩ := e5
        show RW c _ ρ (.tree C ns vs kids) _
        unfold RW
        exact ⟨a, dx, gs, t, rr, rfl, upd_same, n, z.mono fs (.refl _), l, sqT_mono fs y, NRs.mono fs (.refl _) _ _ k⟩
      | dK _ _ => cases hz
      | dT _ _ => cases hz
    · obtain ⟨v, q1, q2⟩ := x.s.val j w h1
      exact ⟨v, q1, q2.mono fs (.refl _)⟩
  · rcases get_set h1 with ⟨_, e⟩ | ⟨ne, h1⟩
    · cases e
    · obtain ⟨b, hb, k1, k2, k3, k4, k5⟩ := x.s.own j oo h1
      exact ⟨b, hb, k1, by rw [upd_ne (fun z => by subst z; exact x.s.nd i j o oo b ne h h1 e1 k1)]; exact k2, k3, k4, k5.mono fs (.refl _)⟩
  · rcases get_set h1 with ⟨_, e⟩ | ⟨n1, h1⟩
    · cases e
    · rcases get_set h2 with ⟨_, e⟩ | ⟨n2, h2⟩
      · cases e
      · exact x.s.nd j k o1 o2 b n h1 h2 h3 h4
  · rw [upd_ne (fun q => by rw [q, nb] at e; cases e)]
    exact (x.g.off b z e hn).2 w
  · rcases get_set h1 with ⟨_, e⟩ | ⟨ne, h1⟩
    · cases e
    · exact x.fresh j oo b h1 h2
  · rcases get_set h1 with ⟨_, e'⟩ | ⟨ne, h1⟩
    · cases e'
    · exact x.slf oo b e h1
def sFrz (i : Nat) (f : Fs) : Fs := fun τ m => match τ[i]? with
  | some (.own o) => if frzb o then f (τ.set i (.val (toW o))) m else .bad
  | _ => f τ m
theorem w_frz {i : Nat} {f : Fs} {D : Ends} (h : sS c Wx B (sFrz i f) D σ H) : sS c Wx B f D σ H := by
  obtain ⟨F, ρ, m, τ, fr, p⟩ := h
  unfold sFrz at p
  split at p
  · rename_i o e
    split at p
    · rename_i hz
      obtain ⟨F', fr'⟩ := fr.freeze hz e
      exact ⟨F', ρ, m, _, fr', p⟩
    · exact p.elim
  · exact ⟨F, ρ, m, τ, fr, p⟩
theorem x_frz {i : Nat} {st : Stmt} {f : Fs} (h : SX c X Wx B st f) : SX c X Wx B st (sFrz i f) := PS.weak h fun _ _ _ q => w_frz q
theorem x_frzs {i : Nat} {st : List Stmt} {f : Fs} (h : SXs c X Wx B st f) : SXs c X Wx B st (sFrz i f) := PSs.weak h fun _ _ _ q => w_frz q
end
end Sm

/-! S5: loops, targets, calls, defs. -/
namespace Sm
open PySem PySem.Spec PyProof.Rows L2

/-! ### what a loop walks -/
structure Wk (c : Cn) (J : It) (ws : List W) (F : Hp) (ρ : List Addr) : Prop where
  go : ∀ (i : Nat) F2 ρ2 m2 H2, Same F F2 → Pre ρ ρ2 → R c F2 ρ2 m2 H2 → i < ws.length → J.go i H2
  stop : ∀ F2 ρ2 m2 H2, Same F F2 → Pre ρ ρ2 → R c F2 ρ2 m2 H2 → J.stop ws.length H2
  yld : ∀ (i : Nat) F2 ρ2 m2 H2 x H3, Same F F2 → Pre ρ ρ2 → R c F2 ρ2 m2 H2 → i < ws.length → J.yld i H2 x H3 → ∃ F3 w, R c F3 ρ2 m2 H3 ∧ Go F2 ρ2 H2 F3 ρ2 H3 ∧ ws[i]? = some w ∧ RW c F3 ρ2 w x
section
variable (c : Cn) (Wx : WX)
def OkI (F : Hp) (ρ : List Addr) (H : Hp) (Rr : It → Hp → Prop) (ws : List W) (m' : Sto) : Prop := ∀ J F' ρ' H', R c F' ρ' m' H' → Go F ρ H F' ρ' H' → Wk c J ws F' ρ' → Rr J H'
def sI (f : Fas) : TI := fun σ H Rr => ∃ F ρ m τ, R c F ρ m H ∧ RS c F ρ τ σ H ∧ Post (OkI c F ρ H Rr) (OkX c F ρ H fun k d H' => Wx k d σ H') (f τ m)
end
abbrev SI (c : Cn) (X : Cx) (Wx : WX) (tg iter : Expr) (f : Fas) : Prop := PI X tg iter (sI c Wx f)
section
variable {cl : Str → Addr} {X : Cx} {Wx : WX}
theorem wk_list {F : Hp} {ρ : List Addr} {a : Addr} {ws : List W} {vs : List V} (h : Rd F a (.lst vs)) (t : RWs ⟨X.K, cl⟩ F ρ ws vs) : Wk ⟨X.K, cl⟩ (Itl X.K a) ws F ρ := by
  have hl := t.length
  refine ⟨fun i F2 ρ2 m2 H2 s p r hi => ⟨vs, vs[i]'(by omega), .inl (rd_mono (s.trans r.sub) h), by simp⟩, fun F2 ρ2 m2 H2 s p r => ⟨vs, .inl (rd_mono (s.trans r.sub) h), by omega⟩, fun i F2 ρ2 m2 H2 x H3 s p r hi y => ?_⟩
  obtain ⟨rfl, y⟩ := y
  obtain ⟨v, e1, e2⟩ := t.get (i := i) (w := ws[i]) (by simp)
  have e3 := y vs (.inl (rd_mono (s.trans r.sub) h))
  rw [e1] at e3
  cases e3
  exact ⟨F2, ws[i], r, .refl, by simp, e2.mono s p⟩
theorem wk_tup {F : Hp} {ρ : List Addr} {a : Addr} {ws : List W} {vs : List V} (h : SqT X.K F a vs) (t : RWs ⟨X.K, cl⟩ F ρ ws vs) : Wk ⟨X.K, cl⟩ (Itt X.K a) ws F ρ := by
  have hl := t.length
  refine ⟨fun i F2 ρ2 m2 H2 s p r hi => ⟨vs, vs[i]'(by omega), sqT_mono (s.trans r.sub) h, by simp⟩, fun F2 ρ2 m2 H2 s p r => ⟨vs, sqT_mono (s.trans r.sub) h, by omega⟩, fun i F2 ρ2 m2 H2 x H3 s p r hi y => ?_⟩
  obtain ⟨rfl, y⟩ := y
  obtain ⟨v, e1, e2⟩ := t.get (i := i) (w := ws[i]) (by simp)
  have e3 := y vs (sqT_mono (s.trans r.sub) h)
  rw [e1] at e3
  cases e3
  exact ⟨F2, ws[i], r, .refl, by simp, e2.mono s p⟩
def chW (x : Str) : List W := x.cps.toList.map fun c => .str ⟨#[c]⟩
theorem wk_str {F : Hp} {ρ : List Addr} {x : Str} {c : Cn} : Wk c (Its x) (chW x) F ρ := by
  have hl : (chW x).length = x.cps.size := by simp [chW]
  refine ⟨fun i F2 ρ2 m2 H2 s p r hi => ?_, fun F2 ρ2 m2 H2 s p r => ?_, fun i F2 ρ2 m2 H2 y H3 s p r hi q => ?_⟩
  · show i < x.cps.size
    omega
  · show x.cps.size ≤ (chW x).length
    omega
  · obtain ⟨rfl, c, e, rfl⟩ := q
    refine ⟨F2, .str ⟨#[c]⟩, r, .refl, ?_, rfl⟩
    simp [chW, e]
def itW : W → Option (List W)
  | .tup xs => some xs
  | .lst xs => some xs
  | .str x => some (chW x)
  | _ => none
def iSeq (f : Fe) : Fas := fun τ => bnd (f τ) fun w m => match itW w with
  | some ws => .ok ws m
  | none => .bad
/-- for .. in a list, a tuple, a text -/
theorem i_seq {tg e : Expr} {f : Fe} (he : SE ⟨X.K, cl⟩ X Wx e f) : SI ⟨X.K, cl⟩ X Wx tg e (iSeq f) := by
  refine ⟨fun pins s σ H Rr I h => ?_⟩
  obtain ⟨F, ρ, m, τ, r, hs, p⟩ := h
  unfold iSeq bnd at p
  cases e1 : f τ m with
  | bad =>
    rw [e1] at p
    exact p.elim
  | exc x m' =>
    rw [e1] at p
    exact (pi_list he).run pins s σ H Rr I ⟨F, ρ, m, τ, r, hs, by rw [e1]; exact p⟩
  | ok w m1 =>
    rw [e1] at p
    dsimp only at p
    cases w with
    | lst ws =>
      refine (pi_list he).run pins s σ H Rr I ⟨F, ρ, m, τ, r, hs, ?_⟩
      rw [e1]
      intro v F1 ρ1 H1 r1 g1 q1
      unfold RW at q1
      obtain ⟨a, vs, rfl, h1, t⟩ := q1
      exact ⟨a, rfl, ⟨vs, .inl (rd_mono r1.sub h1)⟩, p _ F1 ρ1 H1 r1 g1 (wk_list h1 t)⟩
    | tup ws =>
      refine (pi_tup he).run pins s σ H Rr I ⟨F, ρ, m, τ, r, hs, ?_⟩
      rw [e1]
      intro v F1 ρ1 H1 r1 g1 q1
      unfold RW at q1
      obtain ⟨a, vs, rfl, h1, t⟩ := q1
      exact ⟨a, rfl, ⟨vs, sqT_mono r1.sub h1⟩, p _ F1 ρ1 H1 r1 g1 (wk_tup h1 t)⟩
    | str x =>
      refine (pi_str he).run pins s σ H Rr I ⟨F, ρ, m, τ, r, hs, ?_⟩
      rw [e1]
      intro v F1 ρ1 H1 r1 g1 q1
      exact ⟨x, q1, p _ F1 ρ1 H1 r1 g1 wk_str⟩
    | _ => exact p.elim
theorem wk_rng {c : Cn} {F : Hp} {ρ : List Addr} {lo : Int} {n : Nat} : Wk c (Itr lo n) ((List.range n).map fun i : Nat => .int (lo + i)) F ρ := by
  have hl : ((List.range n).map fun i : Nat => W.int (lo + i)).length = n := by simp
  refine ⟨fun i F2 ρ2 m2 H2 s p r hi => ?_, fun F2 ρ2 m2 H2 s p r => ?_, fun i F2 ρ2 m2 H2 y H3 s p r hi q => ?_⟩
  · show i < n
    omega
  · show n ≤ _
    omega
  · obtain ⟨rfl, rfl⟩ := q
    rw [hl] at hi
    exact ⟨F2, .int (lo + i), r, .refl, by simp [hi], rfl⟩
def rng1 : List W → Option (List W)
  | [.int j] => if j.natAbs < 4611686018427387904 then some ((List.range j.toNat).map fun i : Nat => .int i) else none
  | _ => none
def rng2 : List W → Option (List W)
  | [.int i, .int j] => if i.natAbs < 4611686018427387904 ∧ j.natAbs < 4611686018427387904 then some ((List.range (j - i).toNat).map fun k : Nat => .int (i + k)) else none
  | _ => none
def iRng (rg : List W → Option (List W)) (g : Fas) : Fas := fun τ => bnd (g τ) fun ws m => match rg ws with
  | some l => .ok l m
  | none => .bad
theorem RWs.ints {c : Cn} {F : Hp} {ρ : List Addr} {j : Int} {vs : List V} (h : RWs c F ρ [.int j] vs) : vs = [.int j] := by
  obtain ⟨v, r, rfl, h1, h2⟩ := h.inv
  have e : r = [] := h2
  have e' : v = .int j := h1
  rw [e, e']
theorem RWs.ints2 {c : Cn} {F : Hp} {ρ : List Addr} {i j : Int} {vs : List V} (h : RWs c F ρ [.int i, .int j] vs) : vs = [.int i, .int j] := by
  obtain ⟨v, r, rfl, h1, h2⟩ := h.inv
  have e' : v = .int i := h1
  rw [h2.ints, e']
theorem i_range1 {c : Cn} {tg a : Expr} {g : Fas} {p pos : Pos} (ha : SA c X Wx [a] g) (hm : X.mg "range" = none) (hg : Gl X "range" := by rfl) (hs : starEach [a] X.env = [(false, eval a X.env)] := by rfl) : SI c X Wx tg (.Call (.Name "range" p) [a] [] pos) (iRng rng1 g) := by
  refine ⟨fun pins s σ H Rr I h => (pi_range1 hg hm ha hs).run pins s σ H Rr I ?_⟩
  obtain ⟨F, ρ, m, τ, r, hs, p⟩ := h
  refine ⟨F, ρ, m, τ, r, hs, ?_⟩
  unfold iRng bnd at p
  cases e : g τ m with
  | bad =>
    rw [e] at p
    exact p
  | exc x m' =>
    rw [e] at p
    exact p
  | ok ws m1 =>
    rw [e] at p
    dsimp only at p
    intro vs F1 ρ1 H1 r1 g1 q1
    cases e2 : rng1 ws with
    | none =>
      rw [e2] at p
      exact p.elim
    | some l =>
      rw [e2] at p
      unfold rng1 at e2
      split at e2
      · split at e2
        · rename_i j hb
          cases e2
          have hw : Wk c (Itr 0 j.toNat) ((List.range j.toNat).map fun i : Nat => W.int i) F1 ρ1 := by
            have := wk_rng (c := c) (F := F1) (ρ := ρ1) (lo := 0) (n := j.toNat)
            simpa only [Int.zero_add] using this
          exact ⟨j, q1.ints, by omega, by omega, p _ F1 ρ1 H1 r1 g1 hw⟩
        · cases e2
      · cases e2
theorem i_range2 {c : Cn} {tg a b : Expr} {g : Fas} {p pos : Pos} (ha : SA c X Wx [a, b] g) (hm : X.mg "range" = none) (hg : Gl X "range" := by rfl) (hs : starEach [a, b] X.env = [(false, eval a X.env), (false, eval b X.env)] := by rfl) (hs2 : starEach [b] X.env = [(false, eval b X.env)] := by rfl) : SI c X Wx tg (.Call (.Name "range" p) [a, b] [] pos) (iRng rng2 g) := by
  refine ⟨fun pins s σ H Rr I h => (pi_range2 hg hm ha hs hs2).run pins s σ H Rr I ?_⟩
  obtain ⟨F, ρ, m, τ, r, hs, p⟩ := h
  refine ⟨F, ρ, m, τ, r, hs, ?_⟩
  unfold iRng bnd at p
  cases e : g τ m with
  | bad =>
    rw [e] at p
    exact p
  | exc x m' =>
    rw [e] at p
    exact p
  | ok ws m1 =>
    rw [e] at p
    dsimp only at p
    intro vs F1 ρ1 H1 r1 g1 q1
    cases e2 : rng2 ws with
    | none =>
      rw [e2] at p
      exact p.elim
    | some l =>
      rw [e2] at p
      unfold rng2 at e2
      split at e2
      · split at e2
        · rename_i i j hb
          cases e2
          exact ⟨i, j, q1.ints2, ⟨by omega, by omega, by omega, by omega⟩, p _ F1 ρ1 H1 r1 g1 wk_rng⟩
        · cases e2
      · cases e2
end

/-! ### targets -/
abbrev Bd := W → SS → Option SS
/-- what a store to names leaves: own objects stay at their places, slots but those of `is` are as they were -/
def Sta (is : List Nat) (τ τ' : SS) (σ σ' : L2.St) : Prop := (∀ (j : Nat) (o : MO), τ'[j]? = some (.own o) → τ[j]? = some (.own o) ∧ σ'[j]? = σ[j]?) ∧ (∀ j : Nat, j ∉ is → σ'[j]? = σ[j]?) ∧ σ'.length = σ.length
theorem Sta.refl {τ : SS} {σ : L2.St} : Sta [] τ τ σ σ := ⟨fun _ _ h => ⟨h, rfl⟩, fun _ _ => rfl, rfl⟩
theorem Sta.trans {i1 i2 : List Nat} {τ τ1 τ2 : SS} {σ σ1 σ2 : L2.St} (a : Sta i1 τ τ1 σ σ1) (b : Sta i2 τ1 τ2 σ1 σ2) : Sta (i1 ++ i2) τ τ2 σ σ2 := by
  refine ⟨fun j o h => ?_, fun j h => ?_, b.2.2.trans a.2.2⟩
  · obtain ⟨h3, h4⟩ := b.1 j o h
    obtain ⟨h5, h6⟩ := a.1 j o h3
    exact ⟨h5, h4.trans h6⟩
  · rw [List.mem_append, not_or] at h
    exact (b.2.1 j h.2).trans (a.2.1 j h.1)
def sG (c : Cn) (is : List Nat) (bd : Bd) : TG := fun v σ H Q => ∃ F ρ m τ w τ', R c F ρ m H ∧ RS c F ρ τ σ H ∧ RW c F ρ w v ∧ bd w τ = some τ' ∧ ∀ σ', RS c F ρ τ' σ' H → Sta is τ τ' σ σ' → Q σ' H
abbrev SG (c : Cn) (X : Cx) (tg : Expr) (is : List Nat) (bd : Bd) : Prop := PG X tg (sG c is bd)
theorem PG.weak {X : Cx} {e : Expr} {t t' : TG} (h : PG X e t') (w : ∀ v σ H Q, t v σ H Q → t' v σ H Q) : PG X e t := ⟨fun pins s σ H v u Q I r q => h.run pins s σ H v u Q I r (w _ _ _ _ q)⟩
theorem PGs.weak {X : Cx} {e : List Expr} {t t' : TGs} (h : PGs X e t') (w : ∀ v σ H Q, t v σ H Q → t' v σ H Q) : PGs X e t := ⟨fun pins s σ H v u Q I r q => h.run pins s σ H v u Q I r (w _ _ _ _ q)⟩
def bName (i : Nat) : Bd := fun w τ => some (τ.set i (.val w))
def bAll : List Bd → List W → SS → Option SS
  | [], [], τ => some τ
  | b :: bs, w :: ws, τ => (b w τ).bind fun τ' => bAll bs ws τ'
  | _, _, _ => none
def bTup (bs : List Bd) : Bd := fun w τ => match w with
  | .tup ws => bAll bs ws τ
  | .lst ws => bAll bs ws τ
  | _ => none
def sGs (c : Cn) (is : List Nat) (bs : List Bd) : TGs := fun vs σ H Q => ∃ F ρ m τ ws τ', R c F ρ m H ∧ RS c F ρ τ σ H ∧ RWs c F ρ ws vs ∧ bAll bs ws τ = some τ' ∧ ∀ σ', RS c F ρ τ' σ' H → Sta is τ τ' σ σ' → Q σ' H
abbrev SGs (c : Cn) (X : Cx) (tg : List Expr) (is : List Nat) (bs : List Bd) : Prop := PGs X tg (sGs c is bs)
section
variable {c : Cn} {X : Cx} {pos : Pos}
theorem g_name {i : Nat} {x : Str} (hN : X.N.Nodup) (hi : X.N[i]? = some x) (hx : Loc X.env.scope x) (hf : X.fn x = true ∨ X.env.scope.names.lookup x = some .local := by first | exact .inl rfl | exact .inr rfl | assumption) : SG c X (.Name x pos) [i] (bName i) :=
  PG.weak (pg_name hN hi hx hf) fun v σ H Q ⟨F, ρ, m, τ, w, τ', r, s, q, e, k⟩ => by
    cases e
    refine k _ (s.setv q) ⟨fun j o h => ?_, fun j h => ?_, by rw [List.length_set]⟩
    · rcases get_set h with ⟨_, e⟩ | ⟨ne, h⟩
      · cases e
      · exact ⟨h, by rw [List.getElem?_set_ne ne]⟩
    · rw [List.getElem?_set_ne (fun z => h (by rw [z]; simp))]
theorem gs_nil : SGs c X [] [] [] := PGs.weak pgs_nil fun vs σ H Q ⟨F, ρ, m, τ, ws, τ', r, s, q, e, k⟩ => by
  cases ws with
  | nil =>
    cases e
    exact ⟨q, k σ s .refl⟩
  | cons _ _ => cases e
theorem gs_cons {e : Expr} {es : List Expr} {i1 i2 : List Nat} {b : Bd} {bs : List Bd} (h1 : SG c X e i1 b) (h2 : SGs c X es i2 bs) (hs : (assignEach (e :: es) X.env).map (·.2) = assign e X.env :: (assignEach es X.env).map (·.2) := by rfl) : SGs c X (e :: es) (i1 ++ i2) (b :: bs) :=
  PGs.weak (pgs_cons h1 h2 hs) fun vs σ H Q ⟨F, ρ, m, τ, ws, τ', r, s, q, e, k⟩ => by
    cases ws with
    | nil => cases e
    | cons w ws =>
      obtain ⟨v, vr, rfl, q1, q2⟩ := q.inv
      have e1 : (b w τ).bind (fun t => bAll bs ws t) = some τ' := e
      obtain ⟨τ1, e2, e3⟩ := Option.bind_eq_some_iff.mp e1
      refine ⟨v, vr, rfl, F, ρ, m, τ, w, τ1, r, s, q1, e2, fun σ1 s1 k1 => ?_⟩
      exact ⟨F, ρ, m, τ1, ws, τ', r, s1, q2, e3, fun σ2 s2 k2 => k σ2 s2 (k1.trans k2)⟩
end
theorem bAll_len : ∀ {bs : List Bd} {ws : List W} {τ τ' : SS}, bAll bs ws τ = some τ' → ws.length = bs.length
  | [], [], _, _, _ => rfl
  | [], _ :: _, _, _, h => by cases h
  | _ :: _, [], _, _, h => by cases h
  | b :: bs, w :: ws, τ, τ', h => by
    have e1 : (b w τ).bind (fun t => bAll bs ws t) = some τ' := h
    obtain ⟨τ1, e2, e3⟩ := Option.bind_eq_some_iff.mp e1
    rw [List.length_cons, List.length_cons, bAll_len e3]
section
variable {cl : Str → Addr} {X : Cx} {pos : Pos}
theorem g_tup {es : List Expr} {k : Nat} {is : List Nat} {bs : List Bd} {n : Nat} (hc : X.calm = true) (h : SGs ⟨X.K, cl⟩ X es is bs) (hb : bs.length = n := by rfl) (hn : (assignEach es X.env).length = n := by rfl) (hst : (assignEach es X.env).findIdx? (·.1) = none := by rfl) : SG ⟨X.K, cl⟩ X (.Tuple es k pos) is (bTup bs) := by
  refine ⟨fun pins s σ H v u Q I r hw => ?_⟩
  obtain ⟨F, ρ, m, τ, w, τ', r0, s0, q, e, k⟩ := hw
  cases w with
  | tup ws =>
    unfold RW at q
    obtain ⟨a, vs, rfl, h1, t⟩ := q
    have hl := t.length
    have hl2 := bAll_len (show bAll bs ws τ = some τ' from e)
    exact (pg_tup hc h hn hst).run pins s σ H _ u Q I r ⟨a, vs, rfl, sqT_mono r0.sub h1, by omega, F, ρ, m, τ, ws, τ', r0, s0, t, e, k⟩
  | lst ws =>
    unfold RW at q
    obtain ⟨a, vs, rfl, h1, t⟩ := q
    have hl := t.length
    have hl2 := bAll_len (show bAll bs ws τ = some τ' from e)
    exact (pg_lst hc h hn hst).run pins s σ H _ u Q I r ⟨a, vs, rfl, .inl (rd_mono r0.sub h1), by omega, F, ρ, m, τ, ws, τ', r0, s0, t, e, k⟩
  | _ => cases e
end
end Sm

/-! S6: for, while, calls, defs. -/
namespace Sm
open PySem PySem.Spec PyProof.Rows L2

/-! ### for -/
def forW (bd : Bd) (g : Fs) : List W → Fs
  | [] => sNil
  | x :: r => fun τ m => match bd x τ with
    | none => .bad
    | some τ1 => match g τ1 m with
      | .ok (.nx τ2) m2 => forW bd g r τ2 m2
      | .ok (.ct τ2) m2 => forW bd g r τ2 m2
      | .ok (.bk τ2) m2 => .ok (.nx τ2) m2
      | q => q
def sFor (fi : Fas) (bd : Bd) (g : Fs) : Fs := fun τ m => exS (fi τ m) τ fun ws m' => forW bd g ws τ m'
section
variable {c : Cn} {X : Cx} {Wx : WX} {B : Bs} {F F' : Hp} {ρ ρ' : List Addr} {m m' : Sto} {τ : SS} {σ : L2.St} {H H' : Hp} {pos : Pos}
theorem useI {g : Fas} {k : List W → Sto → Res Out} {Q : It → Hp → Prop} {D : Ends} (fr : Fr c B F ρ m τ σ H) (p : Post (okS c Wx B D) (fun _ _ => False) (exS (g τ m) τ k))
    (h : ∀ ws m' J F' ρ' H', Fr c B F' ρ' m' τ σ H' → Wk c J ws F' ρ' → Post (okS c Wx B D) (fun _ _ => False) (k ws m') → Q J H') : sI c Wx g σ H Q := by
  refine ⟨F, ρ, m, τ, fr.r, fr.s, ?_⟩
  unfold exS at p
  cases e : g τ m with
  | bad =>
    rw [e] at p
    exact p
  | exc x m' =>
    rw [e] at p
    exact Fr.ex (D := D) fr p
  | ok w m1 =>
    rw [e] at p
    exact fun J F1 ρ1 H1 r1 g1 q => h w m1 J F1 ρ1 H1 (fr.go r1 g1) q p
theorem Fr.mid (x : Fr c B F ρ m τ σ H) : Fr c ⟨F, ρ, B.H, B.self⟩ F ρ m τ σ H := by
  refine ⟨x.r, x.s, ⟨Same.refl _, .refl _, fun a o h n => x.g.keep a o h fun z => ?_, fun a o h n => ⟨n, fun z => z⟩⟩, x.fresh, x.slf⟩
  obtain ⟨i, hi⟩ := List.getElem?_of_mem z
  exact n (List.mem_of_getElem? (x.g.pre i a hi))
theorem Go.up {F2 : Hp} {ρ2 : List Addr} {H2 : Hp} (x : Go B.F B.ρ B.H F ρ H) (y : Go F ρ B.H F2 ρ2 H2) : Go B.F B.ρ B.H F2 ρ2 H2 :=
  ⟨x.ff.trans y.ff, x.pre.trans y.pre, fun a o h n => y.keep a o h (x.off a o h n).1, fun a o h n => ⟨(y.off a o h (x.off a o h n).1).1, fun z => (y.off a o h (x.off a o h n).1).2 ((x.off a o h n).2 z)⟩⟩
theorem Fr.up {F2 : Hp} {ρ2 : List Addr} {m2 : Sto} {τ2 : SS} {σ2 : L2.St} {H2 : Hp} (x : Go B.F B.ρ B.H F ρ H) (y : Fr c ⟨F, ρ, B.H, B.self⟩ F2 ρ2 m2 τ2 σ2 H2) : Fr c B F2 ρ2 m2 τ2 σ2 H2 := ⟨y.r, y.s, Go.up x y.g, y.fresh, y.slf⟩
theorem drop_cons {ws : List W} {i : Nat} (h : i < ws.length) : ws.drop i = ws[i] :: ws.drop (i + 1) := by rw [List.drop_eq_getElem_cons h]
theorem x_for {k : Nat} {tg iter : Expr} {body : List Stmt} {fi : Fas} {is : List Nat} {bd : Bd} {g : Fs} (x : Ctx X Wx k) (hi : SI c X Wx tg iter fi) (hg : SG c X tg is bd) (hb : ∀ B, SXs c X Wx B body g) (hs : ∀ x, foldedSetIterable iter X.env x = pure x := by intro _; rfl) :
    SX c X Wx B (.For tg iter body [] pos) (sFor fi bd g) := by
  have hbE : PSs X body (fun D σ H => ∃ B', sS c Wx B' g D σ H) := ⟨fun pins s σ H D I ⟨B', q⟩ => (hb B').run pins s σ H D I q⟩
  refine PS.weak (ps_for x.po x.calm hi hg hbE hs) fun D σ H ⟨F, ρ, m, τ, fr, p⟩ => useI fr p fun ws m0 J F0 ρ0 H0 fr0 wk q => ?_
  refine ⟨fun i n σ' H' => n = ws.length - i ∧ i ≤ ws.length ∧ ∃ F1 ρ1 m1 τ1, Fr c B F1 ρ1 m1 τ1 σ' H' ∧ Same F0 F1 ∧ Pre ρ0 ρ1 ∧ Post (okS c Wx B D) (fun _ _ => False) (forW bd g (ws.drop i) τ1 m1), ⟨ws.length, by simp, Nat.zero_le _, F0, ρ0, m0, τ, fr0, Same.refl _, .refl _, by simpa using q⟩, ?_⟩
  rintro i n σ1 H1 ⟨rfl, hi, F1, ρ1, m1, τ1, fr1, s1, p1, q1⟩
  by_cases hlt : i < ws.length
  · refine .inr ⟨wk.go i F1 ρ1 m1 H1 s1 p1 fr1.r hlt, fun σ' H' => ∃ F2 ρ2 m2 τ2, Fr c B F2 ρ2 m2 τ2 σ' H' ∧ Same F0 F2 ∧ Pre ρ0 ρ2 ∧ Post (okS c Wx B D) (fun _ _ => False) (forW bd g (ws.drop (i + 1)) τ2 m2), fun σ' H' h => ⟨ws.length - (i + 1), by omega, rfl, hlt, h⟩, fun v H2 y => ?_⟩
    obtain ⟨F2, w, r2, g2, ew, rw2⟩ := wk.yld i F1 ρ1 m1 H1 v H2 s1 p1 fr1.r hlt y
    have fr2 := fr1.go r2 g2
    have ew' : ws[i] = w := by
      rw [List.getElem?_eq_getElem hlt] at ew
      exact Option.some.inj ew
    rw [drop_cons hlt, ew'] at q1
    unfold forW at q1
    cases eb : bd w τ1 with
    | none =>
      rw [eb] at q1
      exact q1.elim
    | some τ2 =>
      rw [eb] at q1
      dsimp only at q1
      refine ⟨F2, ρ1, m1, τ1, w, τ2, r2, fr2.s, rw2, eb, fun σ2 s2 k2 => ?_⟩
      have fr3 : Fr c B F2 ρ1 m1 τ2 σ2 H2 := ⟨r2, s2, fr2.g, fun j o a h1 h2 => by
        obtain ⟨h3, h4⟩ := k2.1 j o h1
        rw [h4] at h2
        exact fr2.fresh j o a h3 h2, fun o a e h1 => by
        obtain ⟨h3, h4⟩ := k2.1 0 o h1
        rw [h4]
        exact fr2.slf o a e h3⟩
      refine ⟨⟨F2, ρ1, B.H, B.self⟩, F2, ρ1, m1, τ2, fr3.mid, ?_⟩
      have hF : Same F0 F2 := s1.trans g2.ff
      cases e3 : g τ2 m1 with
      | bad =>
        rw [e3] at q1
        exact q1
      | exc z m' =>
        rw [e3] at q1
        exact q1
      | ok o m3 =>
        rw [e3] at q1
        cases o with
        | nx τ3 => exact fun σ' F' ρ' H' f => ⟨F', ρ', m3, τ3, Fr.up fr3.g f, hF.trans f.g.ff, p1.trans f.g.pre, q1⟩
        | ct τ3 => exact fun σ' F' ρ' H' f => ⟨F', ρ', m3, τ3, Fr.up fr3.g f, hF.trans f.g.ff, p1.trans f.g.pre, q1⟩
        | bk τ3 => exact fun σ' F' ρ' H' f => q1 σ' F' ρ' H' (Fr.up fr3.g f)
        | rt w => exact fun v F' ρ' H' r g q => q1 v F' ρ' H' r (Go.up fr3.g g) q
        | ex z τ3 => exact fun k d σ' F' ρ' H' f q => q1 k d σ' F' ρ' H' (Fr.up fr3.g f) q
  · have e : i = ws.length := by omega
    subst e
    refine .inl ⟨wk.stop F1 ρ1 m1 H1 s1 p1 fr1.r, ?_⟩
    rw [List.drop_length] at q1
    exact q1 σ1 F1 ρ1 H1 fr1

/-! ### while -/
def whW (ft : Ft) (g : Fs) : Nat → Fs
  | 0 => fun _ _ => .bad
  | n + 1 => fun τ m => exS (ft τ m) τ fun b m1 => if b = true then
      (match g τ m1 with
      | .ok (.nx τ2) m2 => whW ft g n τ2 m2
      | .ok (.ct τ2) m2 => whW ft g n τ2 m2
      | .ok (.bk τ2) m2 => .ok (.nx τ2) m2
      | q => q) else .ok (.nx τ) m1
theorem x_while {k n : Nat} {t : Expr} {body : List Stmt} {ft : Ft} {g : Fs} (x : Ctx X Wx k) (ht : ST c X Wx t ft) (hb : SXs c X Wx B body g) : SX c X Wx B (.While t body [] pos) (whW ft g n) := by
  refine PS.weak (ps_while x.po ht hb) fun D σ H ⟨F, ρ, m, τ, fr, p⟩ => ?_
  refine ⟨fun n σ' H' => ∃ F1 ρ1 m1 τ1, Fr c B F1 ρ1 m1 τ1 σ' H' ∧ Post (okS c Wx B D) (fun _ _ => False) (whW ft g n τ1 m1), ⟨n, F, ρ, m, τ, fr, p⟩, ?_⟩
  rintro n σ1 H1 ⟨F1, ρ1, m1, τ1, fr1, q1⟩
  cases n with
  | zero => exact q1.elim
  | succ n =>
    unfold whW at q1
    refine useT fr1 q1 fun b m2 F2 ρ2 H2 fr2 q2 => ?_
    cases b with
    | false =>
      rw [if_neg Bool.false_ne_true] at q2 ⊢
      exact q2 _ _ _ _ fr2
    | true =>
      rw [if_pos rfl] at q2 ⊢
      refine ⟨fun σ' H' => ∃ F1 ρ1 m1 τ1, Fr c B F1 ρ1 m1 τ1 σ' H' ∧ Post (okS c Wx B D) (fun _ _ => False) (whW ft g n τ1 m1), fun σ' H' h => ⟨n, Nat.lt_succ_self _, h⟩, F2, ρ2, m2, τ1, fr2, ?_⟩
      cases e3 : g τ1 m2 with
      | bad =>
        rw [e3] at q2
        exact q2
      | exc z m' =>
        rw [e3] at q2
        exact q2
      | ok o m3 =>
        rw [e3] at q2
        cases o with
        | nx τ3 => exact fun σ' F' ρ' H' f => ⟨F', ρ', m3, τ3, f, q2⟩
        | ct τ3 => exact fun σ' F' ρ' H' f => ⟨F', ρ', m3, τ3, f, q2⟩
        | bk τ3 => exact q2
        | rt w => exact q2
        | ex z τ3 => exact q2
end

/-! ### defs and calls -/
def spF (c : Cn) (n : Nat) (γ : List W → M W) : Sp := fun vs H Q E => vs.length = n ∧ ∃ F ρ m ws, R c F ρ m H ∧ RWs c F ρ ws vs ∧ Post (OkE c F ρ H Q) (OkX c F ρ H E) (γ ws m)
/-- a body as a function -/
def runB (n : Nat) (g : Fs) (ws : List W) : M W := fun m => match g (ws.map .val ++ List.replicate (n - ws.length) .un) m with
  | .ok (.nx _) m' => .ok .non m'
  | .ok (.rt w) m' => .ok w m'
  | .ok (.ex x _) m' => .exc x m'
  | _ => .bad
theorem start_RS {c : Cn} {F : Hp} {ρ : List Addr} {H : Hp} {N : List Str} {ws : List W} {vs : List V} (h : RWs c F ρ ws vs) : RS c F ρ (ws.map .val ++ List.replicate (N.length - ws.length) .un) (L2.start N vs) H := by
  have hl := h.length
  have no : ∀ (i : Nat) (o : MO), (ws.map Sl.val ++ List.replicate (N.length - ws.length) Sl.un)[i]? ≠ some (.own o) := fun i o e => by
    by_cases hi : i < ws.length
    · rw [List.getElem?_append_left (by simpa using hi), List.getElem?_map] at e
      cases q : ws[i]? with
      | none =>
        rw [q] at e
        cases e
      | some w =>
        rw [q] at e
        cases e
    · rw [List.getElem?_append_right (by simpa using hi), List.getElem?_replicate] at e
      split at e <;> cases e
  refine ⟨by unfold L2.start; simp [hl], fun i w e => ?_, fun i o e => absurd e (no i o), fun i j o o' a _ e => absurd e (no i o)⟩
  by_cases hi : i < ws.length
  · rw [List.getElem?_append_left (by simpa using hi), List.getElem?_map] at e
    cases q : ws[i]? with
    | none =>
      rw [q] at e
      cases e
    | some w' =>
      rw [q] at e
      cases e
      obtain ⟨v, h1, h2⟩ := h.get q
      refine ⟨v, ?_, h2⟩
      unfold L2.start
      rw [List.getElem?_append_left (by simp; omega), List.getElem?_map, h1]
      rfl
  · rw [List.getElem?_append_right (by simpa using hi), List.getElem?_replicate] at e
    split at e <;> cases e

section
variable {P : Program} {w : World} {K : PySem.W.Frag} {mg : Str → Option Value} {base : Heap} {cl : Str → Addr}
/-- a def by its body -/
theorem fn_ok {x qual : Str} {params : Arguments} {body : List Stmt} {scope : Scope} {dvs : List V} {kws : List (Str × V)} {f : Addr} {fd : FuncData} {N ps : List Str} {k : Nat} {g : Fs} (Fd : FunD K x qual params body scope dvs kws f fd) (S : FnScope N ps scope)
    (hb : ∀ (cdv : Value) (A : Around) (outer : List Env) (s : Shared) (H : Hp) (E : XK) (B : Bs), Ctx (cxOf (CX P w) P w K mg base N qual scope f cdv A outer s H E) (fun cls d _ H => E cls d H) k → SXs ⟨K, cl⟩ (cxOf (CX P w) P w K mg base N qual scope f cdv A outer s H E) (fun cls d _ H => E cls d H) B body g) :
    FnOk P w K mg base (CX P w) (k + 1) f fd ps (spF ⟨K, cl⟩ ps.length (runB N.length g)) := by
  obtain ⟨⟨oc, od, dV, kV, doc, pm, an, cdv, ct, osl, rfl, lk, hcd, _, _⟩, _⟩ := Fd
  refine fn_of lk hcd S (fun vs H Q E h => h.1) fun A outer s H vs Q E hr hsp => ?_
  obtain ⟨hl, F, ρ, m, ws, r, q, p⟩ := hsp
  have tk : Takes (cxOf (CX P w) P w K mg base N qual scope f cdv A outer s H E) (fun cls d _ H => E cls d H) := takes_of rfl rfl rfl rfl
  refine ⟨sS ⟨K, cl⟩ (fun cls d _ H => E cls d H) ⟨F, ρ, H, none⟩ g, hb cdv A outer s H E _ ⟨rfl, tk, passes_of rfl, hr, S.nd⟩, ?_⟩
  refine ⟨F, ρ, m, _, ⟨r, start_RS q, .refl, fun i o a h1 => ?_, fun _ _ e => nomatch e⟩, ?_⟩
  · exact absurd h1 (fun e => by
      by_cases hi : i < ws.length
      · rw [List.getElem?_append_left (by simpa using hi), List.getElem?_map] at e
        cases q : ws[i]? with
        | none =>
          rw [q] at e
          cases e
        | some w =>
          rw [q] at e
          cases e
      · rw [List.getElem?_append_right (by simpa using hi), List.getElem?_replicate] at e
        split at e <;> cases e)
  · unfold runB at p
    cases e : g (ws.map .val ++ List.replicate (N.length - ws.length) .un) m with
    | bad =>
      rw [e] at p
      exact p
    | exc x m' =>
      rw [e] at p
      exact p.elim
    | ok o m' =>
      rw [e] at p
      cases o with
      | nx τ => exact fun σ' F' ρ' H' fr => p _ F' ρ' H' fr.r fr.g rfl
      | rt v => exact p
      | ex z τ => exact fun k d σ' F' ρ' H' fr q => p k d F' ρ' H' fr.r fr.g q
      | bk τ => exact p.elim
      | ct τ => exact p.elim
end
end Sm

/-! S7: calls of defs, the table of all defs. -/
namespace Sm
open PySem PySem.Spec PyProof.Rows L2

abbrev Gm := Str → List W → M W
/-- the def that the module's name x holds is worth γ; n parameters, the last ones by default dws -/
structure Cal (P : Program) (w : World) (K : PySem.W.Frag) (mg : Str → Option Value) (base : Heap) (cl : Str → Addr) (k : Nat) (x : Str) (n : Nat) (dws : List W) (γ : List W → M W) : Prop where
  ex : ∃ f fd ps ds dvs, FnOk P w K mg base (CX P w) k f fd ps (spF ⟨K, cl⟩ ps.length γ) ∧ ps.length = n ∧ mg x = some (.ref f) ∧ PySem.W.keepIn K (.ref f) = true ∧ Binds K fd ps ds ∧ Vals dvs ds ∧ ∀ F ρ, RWs ⟨K, cl⟩ F ρ dws dvs
def eCall (n : Nat) (γ : List W → M W) (dws : List W) (g : Fas) : Fe := fun τ => bnd (g τ) fun ws m => if (ws ++ dws).length = n then γ (ws ++ dws) m else .bad

section
variable {X : Cx} {Wx : WX} {cl : Str → Addr} {k : Nat} {x : Str} {n : Nat} {dws : List W} {γ : List W → M W} {e : Expr} {es : List Expr} {g : Fas} {p pos : Pos}
/-- the callee runs, its exceptions are taken with the slots as they stand -/
theorem run_fnS {k : Nat} {f : Addr} {fd : FuncData} {ps : List Str} {sp : Sp} {ds : List Value} {dvs : List V} {pins : List (Addr × Obj)} {σ : L2.St} {H : Hp} {s : Shared} {Q : VK} {us : List Value} {vs : List V} (F : FnOk X.prog X.w X.K X.mg X.base (CX X.prog X.w) k f fd ps sp) (hr : Room k X.A) (hb : Binds X.K fd ps ds) (hd : Vals dvs ds) (tk : Takes X Wx)
    (I : Inv X pins σ H s) (r : Vals vs us) (h : sp (vs ++ dvs) H Q fun c d H' => Wx c d σ H') : wpAny (model X.prog X.w) X.A (call (.ref f) us) (EP X pins σ Q) X.xe s := by
  have r2 : Vals (vs ++ dvs) (us ++ ds) := r.append hd
  have hl : (us ++ ds).length = ps.length := by rw [← r2.length]; exact F.len _ _ _ _ h
  refine wpAny_call (codeAny_mono (F.run X.A X.stack s H ⟨us, []⟩ (us ++ ds) (vs ++ dvs) Q _ hr I.env0 (hb s us I.kIn hl) r2 h) fun r s' hq => ?_)
  cases r with
  | error e => exact tk e s' (XE.of_call I (fun _ _ _ z => z) hq)
  | ok fl =>
    cases fl with
    | ret u => exact I.after hq
    | next => exact False.elim hq
    | brk => exact False.elim hq
    | cont => exact False.elim hq
theorem w_call {c : Cn} {σ : L2.St} {H : Hp} {Q : VK} {dvs : List V} (hd : ∀ F ρ, RWs c F ρ dws dvs) (h : sE c Wx (eCall n γ dws g) σ H Q) : sA c Wx g σ H (fun vs H1 => spF c n γ (vs ++ dvs) H1 Q fun k d H' => Wx k d σ H') := by
  obtain ⟨F, ρ, m, τ, r, s, p⟩ := h
  refine ⟨F, ρ, m, τ, r, s, ?_⟩
  unfold eCall bnd at p
  cases e : g τ m with
  | bad =>
    rw [e] at p
    exact p
  | exc x m' =>
    rw [e] at p
    exact p
  | ok ws m1 =>
    rw [e] at p
    dsimp only at p
    intro vs F1 ρ1 H1 r1 g1 q1
    split at p
    · rename_i hl
      have h2 := q1.append (hd F1 ρ1)
      refine ⟨by rw [h2.length]; exact hl, F1, ρ1, m1, ws ++ dws, r1, h2, ?_⟩
      cases e2 : γ (ws ++ dws) m1 with
      | bad =>
        rw [e2] at p
        exact p
      | exc x m' =>
        rw [e2] at p
        exact OkX.back r1 g1 p
      | ok w m2 =>
        rw [e2] at p
        exact OkE.back g1 p
    · exact p.elim
theorem s_call (C : Cal X.prog X.w X.K X.mg X.base cl k x n dws γ) (hr : Room k X.A) (tk : Takes X Wx) (ha : SA ⟨X.K, cl⟩ X Wx (e :: es) g) (hg : Gl X x := by rfl) (hdb : (x == ("__debug__" : Str)) = false := by decide)
    (he : starEach (e :: es) X.env = (false, eval e X.env) :: starEach es X.env := by rfl) (hpl : (backTo pos (starEach es X.env)).any (·.1) = false := by rfl) : SE ⟨X.K, cl⟩ X Wx (.Call (.Name x p) (e :: es) [] pos) (eCall n γ dws g) := by
  obtain ⟨f, fd, ps, ds, dvs, F, rfl, hm, hk, hb, hd, hw⟩ := C.ex
  refine ⟨fun pins s σ H Q I h => ?_⟩
  refine wpAny_Call_Name_kw (ld_glob I hg hm ?_ hdb)
  refine PySem.W.callWith_K (h₀ := X.base) I.ok.mod.kin hk (thn (ha.run pos pins s σ H _ I (w_call hw h)) fun us s1 ⟨vs, H1, I1, r, q⟩ => ⟨I1.kIn, ?_⟩) he hpl
  exact run_fnS F hr hb hd tk I1 r q
theorem s_call0 (C : Cal X.prog X.w X.K X.mg X.base cl k x n dws γ) (hr : Room k X.A) (tk : Takes X Wx) (hg : Gl X x := by rfl) (hdb : (x == ("__debug__" : Str)) = false := by decide) : SE ⟨X.K, cl⟩ X Wx (.Call (.Name x p) [] [] pos) (eCall n γ dws aNil) := by
  obtain ⟨f, fd, ps, ds, dvs, F, rfl, hm, hk, hb, hd, hw⟩ := C.ex
  refine ⟨fun pins s σ H Q I h => ?_⟩
  refine wpAny_Call_Name_kw (ld_glob I hg hm ?_ hdb)
  obtain ⟨F0, ρ, m, τ, r, hs, p⟩ := w_call hw h
  exact PySem.W.callWith_K0 I.kIn hk (run_fnS (us := []) F hr hb hd tk I .nil (p [] F0 ρ H r .refl rfl))
end

/-! ### the table -/
section
variable (P : Program) (w : World) (K : PySem.W.Frag) (mg : Str → Option Value) (base : Heap) (cl : Str → Addr)
abbrev Ent := Str × Nat × List W
def Tab (k : Nat) (L : List Ent) (Γ : Gm) : Prop := ∀ p ∈ L, Cal P w K mg base cl k p.1 p.2.1 p.2.2 (Γ p.1)
end
section
variable {P : Program} {w : World} {K : PySem.W.Frag} {mg : Str → Option Value} {base : Heap} {cl : Str → Addr}
theorem Tab.at {k : Nat} {L : List Ent} {Γ : Gm} (h : Tab P w K mg base cl k L Γ) (i : Nat) {x : Str} {n : Nat} {d : List W} (e : L[i]? = some (x, n, d) := by rfl) : Cal P w K mg base cl k x n d (Γ x) := h _ (List.mem_of_getElem? e)
/-- how a def becomes a row of the table -/
theorem cal_mk {x : Str} {k : Nat} {f : Addr} {fd : FuncData} {ps : List Str} {γ : List W → M W} {qual : Str} {params : Arguments} {body : List Stmt} {scope : Scope} {dvs0 : List V} {kws : List (Str × V)} (Fd : FunD K x qual params body scope dvs0 kws f fd) (F : FnOk P w K mg base (CX P w) k f fd ps (spF ⟨K, cl⟩ ps.length γ))
    (hm : mg x = some (.ref f)) {dws : List W} {ds : List Value} {dvs : List V} (hb : Binds K fd ps ds) (hd : Vals dvs ds) (hw : ∀ F ρ, RWs ⟨K, cl⟩ F ρ dws dvs) : Cal P w K mg base cl k x ps.length dws γ := ⟨f, fd, ps, ds, dvs, F, rfl, hm, Fd.kp, hb, hd, hw⟩
theorem fnOk_bad {k : Nat} {f : Addr} {fd : FuncData} {ps : List Str} : FnOk P w K mg base (CX P w) k f fd ps (spF ⟨K, cl⟩ ps.length fun _ => bad) := ⟨fun _ _ _ _ h => h.1, fun A outer s H args us vs Q E hr e0 hb r h => by
  obtain ⟨_, F, ρ, m, ws, _, _, p⟩ := h
  exact p.elim⟩
end
end Sm

/-! S8: new lists, comprehensions. -/
namespace Sm
open PySem PySem.Spec PyProof.Rows L2

section
variable (c : Cn) (Wx : WX)
/-- a new list, held by nobody yet -/
def OkN (F : Hp) (ρ : List Addr) (H : Hp) (Q : VK) (ws : List W) (m' : Sto) : Prop := ∀ a vs F' ρ' H', R c F' ρ' m' H' → Go F ρ H F' ρ' H' → H a = none → F' a = none → a ∉ ρ' → H' a = some (.lst vs) → RWs c F' ρ' ws vs → Q (.ref a) H'
def sN (f : Fas) : TE := fun σ H Q => ∃ F ρ m τ, R c F ρ m H ∧ RS c F ρ τ σ H ∧ Post (OkN c F ρ H Q) (OkX c F ρ H fun k d H' => Wx k d σ H') (f τ m)
end
abbrev SN (c : Cn) (X : Cx) (Wx : WX) (e : Expr) (f : Fas) : Prop := PE X e (sN c Wx f)
def eL (f : Fas) : Fe := fun τ => bnd (f τ) fun ws m => .ok (.lst ws) m
section
variable {c : Cn} {F F1 : Hp} {ρ ρ1 : List Addr} {m : Sto} {H H1 : Hp}
theorem R.frz {a : Addr} {u : HO} (r : R c F ρ m H) (h : H a = some u) (hf : F a = none) (hn : a ∉ ρ) : R c (upd F a u) ρ m H := by
  have fs : Same F (upd F a u) := upd_new hf
  refine ⟨fun b z e => ?_, r.len, r.nd, fun b hb => ?_, fun j b oo h1 h2 => ?_⟩
  · by_cases hb : b = a
    · subst hb
      rw [upd_same] at e
      cases e
      exact h
    · rw [upd_ne hb] at e
      exact r.sub b z e
  · rw [upd_ne (fun z => hn (by rw [← z]; exact hb))]
    exact r.off b hb
  · obtain ⟨ho, h5, h6⟩ := r.at_ j b oo h1 h2
    exact ⟨ho, h5, h6.mono fs (.refl _)⟩
theorem Go.frz {a : Addr} {u : HO} (g : Go F ρ H F1 ρ1 H1) (hf : F1 a = none) (h0 : H a = none) : Go F ρ H (upd F1 a u) ρ1 H1 :=
  ⟨g.ff.trans (upd_new hf), g.pre, g.keep, fun b o e n => ⟨(g.off b o e n).1, fun z => by rw [upd_ne (fun w => by rw [w, h0] at e; cases e)]; exact (g.off b o e n).2 z⟩⟩
theorem Go.back_none (g : Go F ρ H F1 ρ1 H1) {m1 : Sto} (r : R c F1 ρ1 m1 H1) {a : Addr} (n : H1 a = none) : H a = none := g.nn a n fun z => r.live1 g a z n
/-- an object that is neither frozen nor of the store changes -/
theorem R.updO {a : Addr} {u : HO} (r : R c F ρ m H) (hf : F a = none) (hn : a ∉ ρ) : R c F ρ m (upd H a u) := by
  refine ⟨fun b z e => ?_, r.len, r.nd, r.off, fun j b oo h1 h2 => ?_⟩
  · rw [upd_ne (fun w => by rw [w, hf] at e; cases e)]
    exact r.sub b z e
  · obtain ⟨ho, h5, h6⟩ := r.at_ j b oo h1 h2
    exact ⟨ho, by rw [upd_ne (fun w => hn (by rw [← w]; exact List.mem_of_getElem? h1))]; exact h5, h6⟩
theorem Go.updO {a : Addr} {u : HO} (g : Go F ρ H F1 ρ1 H1) (h0 : H a = none) : Go F ρ H F1 ρ1 (upd H1 a u) :=
  ⟨g.ff, g.pre, fun b o e n => by rw [upd_ne (fun w => by rw [w, h0] at e; cases e)]; exact g.keep b o e n, g.off⟩
end
section
variable {c : Cn} {X : Cx} {Wx : WX} {B : Bs} {e : Expr} {es : List Expr} {f g : Fas} {pos : Pos}
theorem SN.se (h : SN c X Wx e f) : SE c X Wx e (eL f) := PE.weak h fun σ H Q ⟨F, ρ, m, τ, r, s, p⟩ => ⟨F, ρ, m, τ, r, s, by
  unfold eL bnd at p
  cases e : f τ m with
  | bad =>
    rw [e] at p
    exact p
  | exc x m' =>
    rw [e] at p
    exact p
  | ok ws m1 =>
    rw [e] at p
    intro a vs F1 ρ1 H1 r1 g1 h0 hf hn ha q
    refine p _ _ _ _ (r1.frz ha hf hn) (g1.frz hf h0) ?_
    unfold RW
    exact ⟨a, vs, rfl, .inl upd_same, q.mono (upd_new hf) (.refl _)⟩⟩
def nLst (g : Fas) : Fas := fun τ => bnd (g τ) fun ws m => if ws.length ≤ sizeLine then .ok ws m else .bad
theorem OkN.fresh {F : Hp} {ρ : List Addr} {H : Hp} {F1 : Hp} {ρ1 : List Addr} {H1 : Hp} {m1 : Sto} {Q : VK} {ws : List W} {vs : List V} (k : OkN c F ρ H Q ws m1) (r1 : R c F1 ρ1 m1 H1) (g1 : Go F ρ H F1 ρ1 H1) (q : RWs c F1 ρ1 ws vs) (p : Addr) (n : H1 p = none) : Q (.ref p) (upd H1 p (.lst vs)) := by
  obtain ⟨r2, g2⟩ := r1.newH n (.lst vs)
  exact k p vs _ _ _ r2 (g1.trans g2) (g1.back_none r1 n) (r1.fnone n) (r1.notin n) upd_same q
theorem n_lst (h : SA c X Wx es g) : SN c X Wx (.List es pos) (nLst g) := PE.weak (pe_lst h) fun σ H Q ⟨F, ρ, m, τ, r, s, p⟩ => ⟨F, ρ, m, τ, r, s, by
  unfold nLst bnd at p
  cases e : g τ m with
  | bad =>
    rw [e] at p
    exact p
  | exc x m' =>
    rw [e] at p
    exact p
  | ok ws m1 =>
    rw [e] at p
    dsimp only at p
    intro vs F1 ρ1 H1 r1 g1 q1
    split at p
    · rename_i hl
      exact ⟨by rw [q1.length]; exact hl, fun a n => OkN.fresh p r1 g1 q1 a n⟩
    · exact p.elim⟩
theorem useN {F : Hp} {ρ : List Addr} {m : Sto} {τ : SS} {σ : L2.St} {H : Hp} {k : List W → Sto → Res Out} {Q : VK} {D : Ends} (fr : Fr c B F ρ m τ σ H) (p : Post (okS c Wx B D) (fun _ _ => False) (exS (f τ m) τ k))
    (h : ∀ ws m' a vs F' ρ' H', Fr c B F' ρ' m' τ σ H' → H a = none → F' a = none → a ∉ ρ' → H' a = some (.lst vs) → RWs c F' ρ' ws vs → Post (okS c Wx B D) (fun _ _ => False) (k ws m') → Q (.ref a) H') : sN c Wx f σ H Q := by
  refine ⟨F, ρ, m, τ, fr.r, fr.s, ?_⟩
  unfold exS at p
  cases e : f τ m with
  | bad =>
    rw [e] at p
    exact p
  | exc x m' =>
    rw [e] at p
    exact Fr.ex (D := D) fr p
  | ok w m1 =>
    rw [e] at p
    exact fun a vs F1 ρ1 H1 r1 g1 h0 hf hn ha q => h w m1 a vs F1 ρ1 H1 (fr.go r1 g1) h0 hf hn ha q p
theorem Fr.bnone {F : Hp} {ρ : List Addr} {m : Sto} {τ : SS} {σ : L2.St} {H : Hp} (x : Fr c B F ρ m τ σ H) {a : Addr} (n : H a = none) : B.H a = none := x.g.back_none x.r n
/-- an object that nobody holds yet is now held by slot i -/
theorem Fr.take {F F' : Hp} {ρ ρ' : List Addr} {m m' : Sto} {τ : SS} {σ : L2.St} {H H' : Hp} {i : Nat} {o : MO} {a : Addr} {u : HO} (x0 : Fr c B F ρ m τ σ H) (x : Fr c B F' ρ' m' τ σ H') (i0 : i ≠ 0) (h0 : H a = none) (hf : F' a = none) (hn : a ∉ ρ') (ha : H' a = some u) (q : OR c F' ρ' a o u) :
    Fr c B F' ρ' m' (τ.set i (.own o)) (σ.set i (some (.ref a))) H' := by
  refine ⟨x.r, x.s.seto hf hn ha q fun j o' ne h1 h2 => ?_, x.g, fun j o' b h1 h2 => ?_, fun o' b e h1 => ?_⟩
  · obtain ⟨b, h, e1, _, _, e2, _⟩ := x0.s.own j o' h1
    rw [h2] at e1
    cases e1
    rw [h0] at e2
    cases e2
  · rcases get_set h1 with ⟨e1, _⟩ | ⟨ne, h1⟩
    · subst e1
      have hl : i < (σ.set i (some (V.ref a))).length := (List.getElem?_eq_some_iff.mp h2).1
      rw [List.length_set] at hl
      rw [set_get hl] at h2
      cases h2
      exact x0.bnone h0
    · rw [List.getElem?_set_ne ne] at h2
      exact x.fresh j o' b h1 h2
  · rcases get_set h1 with ⟨e1, _⟩ | ⟨ne, h1⟩
    · exact absurd e1 i0
    · rw [List.getElem?_set_ne ne]
      exact x.slf o' b e h1
def sSetN (i : Nat) (f : Fas) : Fs := fun τ m => exS (f τ m) τ fun ws m' => .ok (.nx (τ.set i (.own (.lst ws)))) m'
theorem x_setN {i : Nat} {x : Str} {pos' : Pos} (hN : X.N.Nodup) (hi : X.N[i]? = some x) (hx : Loc X.env.scope x) (h : SN c X Wx e f) (i0 : i ≠ 0 := by decide) (hs : swapsWith e (some (.Name x pos')) pos.line X.env = pure false := by rfl)
    (hf : X.fn x = true ∨ X.env.scope.names.lookup x = some .local := by first | exact .inl rfl | exact .inr rfl | assumption) : SX c X Wx B (.Assign [.Name x pos'] e pos) (sSetN i f) :=
  PS.weak (ps_set hN hi hx h hs hf) fun D σ H ⟨F, ρ, m, τ, fr, p⟩ => useN fr p fun ws m' a vs F' ρ' H' fr' h0 hf hn ha r q => q _ _ _ _ (fr.take fr' i0 h0 hf hn ha ⟨vs, rfl, r⟩)

/-! ### comprehensions -/
abbrev W0 : WX := fun _ _ _ _ => False
def wipeS (τ : SS) : List Nat → SS
  | [] => τ
  | v :: vs => (wipeS τ vs).set v .un
theorem RS.setu {F : Hp} {ρ : List Addr} {τ : SS} {σ : L2.St} {H : Hp} {i : Nat} (s : RS c F ρ τ σ H) : RS c F ρ (τ.set i .un) (σ.set i none) H := by
  refine ⟨by rw [List.length_set, List.length_set, s.len], fun j u h => ?_, fun j o h => ?_, fun j k o o' a n h1 h2 h3 h4 => ?_⟩
  · rcases get_set h with ⟨_, e⟩ | ⟨ne, h⟩
    · cases e
    · obtain ⟨v', q, r⟩ := s.val j u h
      exact ⟨v', by rw [List.getElem?_set_ne ne]; exact q, r⟩
  · rcases get_set h with ⟨_, e⟩ | ⟨ne, h⟩
    · cases e
    · obtain ⟨a, u, q, r⟩ := s.own j o h
      exact ⟨a, u, by rw [List.getElem?_set_ne ne]; exact q, r⟩
  · rcases get_set h1 with ⟨_, e⟩ | ⟨n1, h1⟩
    · cases e
    · rcases get_set h2 with ⟨_, e⟩ | ⟨n2, h2⟩
      · cases e
      · rw [List.getElem?_set_ne n1] at h3
        rw [List.getElem?_set_ne n2] at h4
        exact s.nd j k o o' a n h1 h2 h3 h4
theorem RS.wipe {F : Hp} {ρ : List Addr} {τ : SS} {σ : L2.St} {H : Hp} (s : RS c F ρ τ σ H) : ∀ vs : List Nat, RS c F ρ (wipeS τ vs) (L2.wipe σ vs) H
  | [] => s
  | v :: vs => (RS.wipe s vs).setu
theorem wipe_get {σ : L2.St} {j : Nat} : ∀ {vs : List Nat}, j ∉ vs → (L2.wipe σ vs)[j]? = σ[j]?
  | [], _ => rfl
  | v :: vs, h => by
    rw [List.mem_cons, not_or] at h
    unfold L2.wipe
    rw [List.getElem?_set_ne (Ne.symm h.1), wipe_get h.2]
theorem wipe_in {σ : L2.St} {j : Nat} : ∀ {vs : List Nat}, j ∈ vs → j < σ.length → (L2.wipe σ vs)[j]? = some none
  | v :: vs, h, hl => by
    unfold L2.wipe
    by_cases e : v = j
    · subst e
      exact set_get (by rw [wipe_length]; exact hl)
    · rw [List.getElem?_set_ne e]
      exact wipe_in ((List.mem_cons.mp h).resolve_left (Ne.symm e)) hl
theorem wipe_sta {is vs : List Nat} {τ τ' : SS} {σ σ2 : L2.St} (hs : ∀ i ∈ is, i ∈ vs) (k : Sta is τ τ' (L2.wipe σ vs) σ2) : L2.wipe σ2 vs = L2.wipe σ vs := by
  have hl : σ2.length = σ.length := by rw [k.2.2, wipe_length]
  apply List.ext_getElem?
  intro j
  by_cases hj : j ∈ vs
  · by_cases hb : j < σ.length
    · rw [wipe_in hj (by omega), wipe_in hj hb]
    · rw [List.getElem?_eq_none (by rw [wipe_length]; omega), List.getElem?_eq_none (by rw [wipe_length]; omega)]
  · rw [wipe_get hj, k.2.1 j fun z => hj (hs j z)]
def lcM (bd : Bd) (ft : Ft) (fe : Fe) (τ : SS) : List W → M (List W)
  | [] => ret []
  | x :: r => match bd x τ with
    | none => bad
    | some τ1 => bnd (ft τ1) fun b => if b = true then bnd (fe τ1) fun w => bnd (lcM bd ft fe τ r) fun ws => ret (w :: ws) else lcM bd ft fe τ r
def nLc (fi : Fas) (vs : List Nat) (bd : Bd) (ft : Ft) (fe : Fe) : Fas := fun τ => bnd (fi τ) fun xs m => match lcM bd ft fe (wipeS τ vs) xs m with
  | .ok ws m' => if ws.length ≤ sizeLine then .ok ws m' else .bad
  | _ => .bad
theorem lcM_cons {bd : Bd} {ft : Ft} {fe : Fe} {τ : SS} {x : W} {r : List W} {m m' : Sto} {ws : List W} (h : lcM bd ft fe τ (x :: r) m = .ok ws m') : ∃ τ1 b m1, bd x τ = some τ1 ∧ ft τ1 m = .ok b m1 ∧
    ((b = true ∧ ∃ w m2 ws', fe τ1 m1 = .ok w m2 ∧ lcM bd ft fe τ r m2 = .ok ws' m' ∧ ws = w :: ws') ∨ (b = false ∧ lcM bd ft fe τ r m1 = .ok ws m')) := by
  unfold lcM at h
  cases e1 : bd x τ with
  | none =>
    rw [e1] at h
    cases h
  | some τ1 =>
    rw [e1] at h
    dsimp only at h
    unfold bnd at h
    cases e2 : ft τ1 m with
    | bad =>
      rw [e2] at h
      cases h
    | exc _ _ =>
      rw [e2] at h
      cases h
    | ok b m1 =>
      rw [e2] at h
      dsimp only at h
      refine ⟨τ1, b, m1, rfl, e2, ?_⟩
      cases b with
      | false => exact .inr ⟨rfl, h⟩
      | true =>
        rw [if_pos rfl] at h
        cases e3 : fe τ1 m1 with
        | bad =>
          rw [e3] at h
          cases h
        | exc _ _ =>
          rw [e3] at h
          cases h
        | ok w m2 =>
          rw [e3] at h
          dsimp only at h
          cases e4 : lcM bd ft fe τ r m2 with
          | bad =>
            rw [e4] at h
            cases h
          | exc _ _ =>
            rw [e4] at h
            cases h
          | ok ws' m3 =>
            rw [e4] at h
            cases h
            exact .inl ⟨rfl, w, m2, ws', rfl, e4, rfl⟩
theorem w_lc {fi : Fas} {is vs : List Nat} {bd : Bd} {ft : Ft} {fe : Fe} {σ : L2.St} {H : Hp} {Q : VK} (hss : ∀ i ∈ is, i ∈ vs) (h : sN c Wx (nLc fi vs bd ft fe) σ H Q) : tLc (sI c Wx fi) (sG c is bd) (sT c W0 ft) (sE c W0 fe) vs σ H Q := by
  obtain ⟨F, ρ, m, τ, r, s, p⟩ := h
  refine ⟨F, ρ, m, τ, r, s, ?_⟩
  unfold nLc bnd at p
  cases e0 : fi τ m with
  | bad =>
    rw [e0] at p
    exact p
  | exc x m' =>
    rw [e0] at p
    exact p
  | ok xs m0 =>
    rw [e0] at p
    dsimp only at p
    intro J F0 ρ0 H0 r0 g0 wk D hD
    cases e1 : lcM bd ft fe (wipeS τ vs) xs m0 with
    | bad =>
      rw [e1] at p
      exact p.elim
    | exc _ _ =>
      rw [e1] at p
      exact p.elim
    | ok ws mE =>
      rw [e1] at p
      dsimp only at p
      split at p
      case isFalse => exact p.elim
      rename_i hlen
      have hD0 : H D = none := g0.back_none r0 hD
      obtain ⟨rn, gn⟩ := r0.newH hD (.lst [])
      refine ⟨fun i n H' => n = xs.length - i ∧ i ≤ xs.length ∧ ∃ F1 ρ1 m1 acc accV ws', R c F1 ρ1 m1 H' ∧ Go F ρ H F1 ρ1 H' ∧ Same F0 F1 ∧ Pre ρ0 ρ1 ∧ F1 D = none ∧ D ∉ ρ1 ∧ H' D = some (.lst accV) ∧ RWs c F1 ρ1 acc accV ∧ lcM bd ft fe (wipeS τ vs) (xs.drop i) m1 = .ok ws' mE ∧ ws = acc ++ ws',
        ⟨xs.length, by simp, Nat.zero_le _, F0, ρ0, m0, [], [], ws, rn, g0.trans gn, Same.refl _, .refl _, r0.fnone hD, r0.notin hD, upd_same, .nil, by simpa using e1, rfl⟩, ?_⟩
      rintro i n H1 ⟨rfl, hi, F1, ρ1, m1, acc, accV, ws', r1, g1, s1, p1, hf1, hn1, hd1, q1, el, ew⟩
      by_cases hlt : i < xs.length
      · refine .inr ⟨wk.go i F1 ρ1 m1 H1 s1 p1 r1 hlt, fun H' => ∃ F1 ρ1 m1 acc accV ws', R c F1 ρ1 m1 H' ∧ Go F ρ H F1 ρ1 H' ∧ Same F0 F1 ∧ Pre ρ0 ρ1 ∧ F1 D = none ∧ D ∉ ρ1 ∧ H' D = some (.lst accV) ∧ RWs c F1 ρ1 acc accV ∧ lcM bd ft fe (wipeS τ vs) (xs.drop (i + 1)) m1 = .ok ws' mE ∧ ws = acc ++ ws',
          fun H' h => ⟨xs.length - (i + 1), by omega, rfl, hlt, h⟩, fun v H2 y => ?_⟩
        obtain ⟨F2, w, r2, g2, ew2, rw2⟩ := wk.yld i F1 ρ1 m1 H1 v H2 s1 p1 r1 hlt y
        have ew' : xs[i] = w := by
          rw [List.getElem?_eq_getElem hlt] at ew2
          exact Option.some.inj ew2
        rw [drop_cons hlt, ew'] at el
        obtain ⟨τ1, b, m2, eb, et, hcase⟩ := lcM_cons el
        have g02 := g1.trans g2
        have hd2 : H2 D = some (.lst accV) := g2.keep D _ hd1 hn1
        have hf2 : F2 D = none := (g2.off D _ hd1 hn1).2 hf1
        refine ⟨F2, ρ1, m1, wipeS τ vs, w, τ1, r2, (s.go g02).wipe vs, rw2, eb, fun σ2 s2 k2 => ⟨wipe_sta hss k2, F2, ρ1, m1, τ1, r2, s2, ?_⟩⟩
        rw [et]
        intro F3 ρ3 H3 r3 g3
        have hd3 : H3 D = some (.lst accV) := g3.keep D _ hd2 hn1
        have hn3 : D ∉ ρ3 := (g3.off D _ hd2 hn1).1
        have hf3 : F3 D = none := (g3.off D _ hd2 hn1).2 hf2
        rcases hcase with ⟨rfl, w2, m3, ws2, ee, er, rfl⟩ | ⟨rfl, er⟩
        · rw [if_pos rfl]
          refine ⟨F3, ρ3, m2, τ1, r3, s2.go g3, ?_⟩
          rw [ee]
          intro v2 F4 ρ4 H4 r4 g4 q4
          have hd4 : H4 D = some (.lst accV) := g4.keep D _ hd3 hn3
          have hn4 : D ∉ ρ4 := (g4.off D _ hd3 hn3).1
          have hf4 : F4 D = none := (g4.off D _ hd3 hn3).2 hf3
          have gA := g2.trans (g3.trans g4)
          have ql := q1.length
          have hl2 : ws.length = acc.length + (ws2.length + 1) := by rw [ew, List.length_append, List.length_cons]
          refine ⟨accV, hd4, by omega, F4, ρ4, m3, acc ++ [w2], accV ++ [v2], ws2, r4.updO hf4 hn4, (g1.trans gA).updO hD0, s1.trans gA.ff, p1.trans gA.pre, hf4, hn4, upd_same, (q1.mono gA.ff gA.pre).append (.cons q4 .nil), er, by rw [ew, List.append_assoc]; rfl⟩
        · rw [if_neg Bool.false_ne_true]
          have gA := g2.trans g3
          exact ⟨F3, ρ3, m2, acc, accV, ws', r3, g1.trans gA, s1.trans gA.ff, p1.trans gA.pre, hf3, hn3, hd3, q1.mono gA.ff gA.pre, er, ew⟩
      · have e : i = xs.length := by omega
        subst e
        refine .inl ⟨wk.stop F1 ρ1 m1 H1 s1 p1 r1, ?_⟩
        rw [List.drop_length] at el
        cases el
        rw [List.append_nil] at ew
        subst ew
        exact p D accV F1 ρ1 H1 r1 g1 hD0 hf1 hn1 hd1 q1
def tYesM : Ft := fun _ m => .ok true m
theorem ts_nil : PTs X [] (sT c Wx tYesM) := ⟨fun pins s σ H Q I h => by
  obtain ⟨F, ρ, m, τ, r, hs, p⟩ := h
  exact pts_nil.run pins s σ H Q I (p F ρ H r .refl)⟩
theorem ts_one {t : Expr} {ft : Ft} (h : ST c X Wx t ft) : PTs X [t] (sT c Wx ft) := pts_one h
theorem n_lc {k : Nat} {elt tg iter : Expr} {ifs : List Expr} {scope : Scope} {own : List (Str × Nat)} {fi : Fas} {is : List Nat} {bd : Bd} {ft : Ft} {fe : Fe} (x : Ctx X Wx k) (hi : SI c X Wx tg iter fi) (ok : BlkOk X.N X.env.scope scope own) (hss : ∀ i ∈ is, i ∈ own.map (·.2))
    (hg : ∀ (s : Shared) (H : Hp) (C : Addr) (cl : List (Str × Addr)) (fp : List Addr), SG c (X.blk s H scope (compEnvC scope cl C X.env) fp) tg is bd) (ht : ∀ (s : Shared) (H : Hp) (C : Addr) (cl : List (Str × Addr)) (fp : List Addr), PTs (X.blk s H scope (compEnvC scope cl C X.env) fp) ifs (sT c W0 ft))
    (he : ∀ (s : Shared) (H : Hp) (C : Addr) (cl : List (Str × Addr)) (fp : List Addr), SE c (X.blk s H scope (compEnvC scope cl C X.env) fp) W0 elt fe) (hs : ∀ x, foldedSetIterable iter X.env x = pure x := by intro _; rfl) :
    SN c X Wx (.ListComp elt [⟨tg, iter, ifs, 0⟩] scope pos) (nLc fi (own.map (·.2)) bd ft fe) := PE.weak (pe_lc x.calm x.nd hi ok hg ht he hs) fun _ _ _ h => w_lc hss h
/-- name = [.. for ..] on one line -/
theorem x_setLc {k i : Nat} {y : Str} {py spos : Pos} {elt tg iter : Expr} {ifs : List Expr} {scope : Scope} {own : List (Str × Nat)} {fi : Fas} {is : List Nat} {bd : Bd} {ft : Ft} {fe : Fe} (x : Ctx X Wx k) (hy : X.N[i]? = some y) (hyl : X.env.scope.names.lookup y = some .local) (hsw : swapsWith (.ListComp elt [⟨tg, iter, ifs, 0⟩] scope pos) (some (.Name y py)) spos.line X.env = pure true)
    (hi : SI c X Wx tg iter fi) (ok : BlkOk X.N X.env.scope scope own) (hss : ∀ i ∈ is, i ∈ own.map (·.2))
    (hg : ∀ (s : Shared) (H : Hp) (C : Addr) (cl : List (Str × Addr)) (fp : List Addr), SG c (X.blk s H scope (compEnvC scope cl C X.env) fp) tg is bd) (ht : ∀ (s : Shared) (H : Hp) (C : Addr) (cl : List (Str × Addr)) (fp : List Addr), PTs (X.blk s H scope (compEnvC scope cl C X.env) fp) ifs (sT c W0 ft))
    (he : ∀ (s : Shared) (H : Hp) (C : Addr) (cl : List (Str × Addr)) (fp : List Addr), SE c (X.blk s H scope (compEnvC scope cl C X.env) fp) W0 elt fe) (i0 : i ≠ 0 := by decide) (hs : ∀ x, foldedSetIterable iter X.env x = pure x := by intro _; rfl) :
    SX c X Wx B (.Assign [.Name y py] (.ListComp elt [⟨tg, iter, ifs, 0⟩] scope pos) spos) (sSetN i (nLc fi (own.map (·.2)) bd ft fe)) :=
  PS.weak (ps_setLc x.calm x.nd hy hyl hsw hi ok hg ht he hs) fun D σ H ⟨F, ρ, m, τ, fr, p⟩ => w_lc (Wx := Wx) hss (useN (B := B) (Wx := Wx) fr p fun ws m' a vs F' ρ' H' fr' h0 hf hn ha r q => q _ _ _ _ (fr.take fr' i0 h0 hf hn ha ⟨vs, rfl, r⟩))
end
end Sm

/-! S9: items, comparisons, built-in calls. -/
namespace Sm
open PySem PySem.Spec PyProof.Rows L2

/-! ### items -/
def charW (x : Str) (i : Int) : Option W := if x.length ≤ sizeLine then (atI x.cps.toList i).map fun c => .str ⟨#[c]⟩ else none
def ixW : W → W → Sto → Option W
  | .tup xs, .int i, _ => atI xs i
  | .lst xs, .int i, _ => atI xs i
  | .str x, .int i, _ => charW x i
  | .ref r, .int i, m => match m[r]? with
    | some (.lst xs) => atI xs i
    | _ => none
  | _, _, _ => none
section
variable {c : Cn} {F : Hp} {ρ : List Addr}
theorem RWs.atI {ws : List W} {vs : List V} {i : Int} {w : W} (h : RWs c F ρ ws vs) (e : L2.atI ws i = some w) : ∃ v, L2.atI vs i = some v ∧ RW c F ρ w v := by
  have hl := h.length
  unfold L2.atI at e ⊢
  rw [hl]
  cases q : ixN ws.length i with
  | none =>
    rw [q] at e
    cases e
  | some j =>
    rw [q] at e
    exact h.get e
end
section
variable {cl : Str → Addr} {X : Cx} {Wx : WX}
theorem i_x : IxR X (rS ⟨X.K, cl⟩ ixW) := by
  intro value slice pins s σ H x y v u Q I rx ry h hs
  obtain ⟨F, ρ, m, w1, w2, w, r, q1, q2, e, k⟩ := h
  unfold ixW at e
  split at e
  · obtain ⟨a, vs, rfl, h1, t⟩ := q1.tup r
    obtain ⟨v', e1, e2⟩ := t.atI e
    exact ix_tup value slice pins s σ H _ y v u Q I rx ry ⟨a, vs, _, v', rfl, q2.int, h1, e1, k _ F ρ H r .refl e2⟩ hs
  · obtain ⟨a, vs, rfl, h1, t⟩ := q1.lst r
    obtain ⟨v', e1, e2⟩ := t.atI e
    exact ix_list value slice pins s σ H _ y v u Q I rx ry ⟨a, vs, _, v', rfl, q2.int, .inl h1, e1, k _ F ρ H r .refl e2⟩ hs
  · rename_i z i
    unfold charW at e
    split at e
    · rename_i hz
      cases e1 : atI z.cps.toList i with
      | none =>
        rw [e1] at e
        cases e
      | some ch =>
        rw [e1] at e
        cases e
        exact ix_str value slice pins s σ H x y v u Q I rx ry ⟨z, i, ch, q1.str, q2.int, hz, e1, k _ F ρ H r .refl rfl⟩ hs
    · cases e
  · obtain ⟨a, rfl, h1⟩ := q1.ref
    split at e
    · rename_i xs hx
      obtain ⟨vs, h2, t⟩ := r.lst h1 hx
      obtain ⟨v', e1, e2⟩ := t.atI e
      exact ix_list value slice pins s σ H _ y v u Q I rx ry ⟨a, vs, _, v', rfl, q2.int, .of h2, e1, k _ F ρ H r .refl e2⟩ hs
    · cases e
  · cases e

/-! ### == and != of data -/
mutual
def toD : W → Option PyData
  | .non => some .none
  | .bl b => some (.bool b)
  | .int i => some (.int i)
  | .str x => some (.str x)
  | .tup xs => (toDs xs).map .tuple
  | .lst xs => (toDs xs).map .list
  | _ => none
def toDs : List W → Option (List PyData)
  | [] => some []
  | x :: r => match toD x, toDs r with
    | some d, some ds => some (d :: ds)
    | _, _ => none
end
mutual
theorem toD_dp {F : Hp} {ρ : List Addr} {H : Hp} (s : Same F H) : ∀ (w : W) (v : V) (d : PyData), RW ⟨X.K, cl⟩ F ρ w v → toD w = some d → Dp X.K H v d
  | .non, v, d, h, e => by
    have h' : v = .non := h
    unfold toD at e
    cases e
    rw [h']
    exact .non
  | .bl b, v, d, h, e => by
    have h' : v = .bl b := h
    unfold toD at e
    cases e
    rw [h']
    exact .bl b
  | .int b, v, d, h, e => by
    have h' : v = .int b := h
    unfold toD at e
    cases e
    rw [h']
    exact .int b
  | .str b, v, d, h, e => by
    have h' : v = .str b := h
    unfold toD at e
    cases e
    rw [h']
    exact .str b
  | .tup xs, v, d, h, e => by
    unfold RW at h
    obtain ⟨a, vs, rfl, h1, t⟩ := h
    unfold toD at e
    obtain ⟨ds, e1, rfl⟩ := Option.map_eq_some_iff.mp e
    exact .tup (sqT_mono s h1) (toDs_dp s xs vs ds t e1)
  | .lst xs, v, d, h, e => by
    unfold RW at h
    obtain ⟨a, vs, rfl, h1, t⟩ := h
    unfold toD at e
    obtain ⟨ds, e1, rfl⟩ := Option.map_eq_some_iff.mp e
    exact .lst (.inl (rd_mono s h1)) (toDs_dp s xs vs ds t e1)
  | .dct _ _, v, d, h, e => by
    unfold toD at e
    cases e
  | .obj _ _ _, v, d, h, e => by
    unfold toD at e
    cases e
  | .tree _ _ _ _, v, d, h, e => by
    unfold toD at e
    cases e
  | .ref _, v, d, h, e => by
    unfold toD at e
    cases e
  | .ty _, v, d, h, e => by
    unfold toD at e
    cases e
  | .cls _, v, d, h, e => by
    unfold toD at e
    cases e
theorem toDs_dp {F : Hp} {ρ : List Addr} {H : Hp} (s : Same F H) : ∀ (ws : List W) (vs : List V) (ds : List PyData), RWs ⟨X.K, cl⟩ F ρ ws vs → toDs ws = some ds → DpAll X.K H vs ds
  | [], vs, ds, h, e => by
    have h' : vs = [] := h
    unfold toDs at e
    cases e
    rw [h']
    exact .nil
  | w :: ws, vs, ds, h, e => by
    obtain ⟨v, r, rfl, h1, t⟩ := h.inv
    unfold toDs at e
    cases e1 : toD w with
    | none =>
      rw [e1] at e
      cases e
    | some d =>
      cases e2 : toDs ws with
      | none =>
        rw [e1, e2] at e
        cases e
      | some ds' =>
        rw [e1, e2] at e
        cases e
        exact .cons (toD_dp s w v d h1 e1) (toDs_dp s ws r ds' t e2)
end
/-- what stands at a place of the store, as data -/
def deref : W → Sto → W
  | .ref i, m => match m[i]? with
    | some o => toW o
    | none => .ref i
  | w, _ => w
def eqB (w1 w2 : W) (m : Sto) : Option Bool := match toD (deref w1 m), toD (deref w2 m) with
  | some d, some e => if SeqAt.shaped d = true ∧ SeqAt.shaped e = true then some (PyData.eqv d e) else none
  | _, _ => none
def eqW (w1 w2 : W) (m : Sto) : Option W := (eqB w1 w2 m).map .bl
def neW (w1 w2 : W) (m : Sto) : Option W := (eqB w1 w2 m).map fun b => .bl (!b)
theorem deref_dp {F : Hp} {ρ : List Addr} {H : Hp} {m : Sto} {w : W} {v : V} {d : PyData} (r : R ⟨X.K, cl⟩ F ρ m H) (q : RB ⟨X.K, cl⟩ F ρ H w v) (e : toD (deref w m) = some d) : Dp X.K H v d := by
  cases w with
  | ref i =>
    obtain ⟨a, rfl, h1⟩ := q.ref
    unfold deref at e
    dsimp only at e
    cases e2 : m[i]? with
    | none =>
      rw [e2] at e
      cases e
    | some o =>
      rw [e2] at e
      cases o with
      | lst xs =>
        obtain ⟨vs, h2, t⟩ := r.lst h1 e2
        have e' : toD (.lst xs) = some d := e
        unfold toD at e'
        obtain ⟨ds, e1, rfl⟩ := Option.map_eq_some_iff.mp e'
        exact .lst (.of h2) (toDs_dp r.sub xs vs ds t e1)
      | _ => cases e
  | lst xs =>
    obtain ⟨a, vs, rfl, h1, t⟩ := q.lst r
    have e' : toD (.lst xs) = some d := e
    unfold toD at e'
    obtain ⟨ds, e1, rfl⟩ := Option.map_eq_some_iff.mp e'
    exact .lst (.inl h1) (toDs_dp r.sub xs vs ds t e1)
  | obj _ _ _ => cases e
  | non => exact toD_dp r.sub _ v d (q.scal fun o e => by cases o <;> cases e) e
  | bl _ => exact toD_dp r.sub _ v d (q.scal fun o e => by cases o <;> cases e) e
  | int _ => exact toD_dp r.sub _ v d (q.scal fun o e => by cases o <;> cases e) e
  | str _ => exact toD_dp r.sub _ v d (q.scal fun o e => by cases o <;> cases e) e
  | tup _ => exact toD_dp r.sub _ v d (q.scal fun o e => by cases o <;> cases e) e
  | dct _ _ => cases e
  | tree _ _ _ _ => cases e
  | ty _ => cases e
  | cls _ => cases e
theorem eqB_dp {F : Hp} {ρ : List Addr} {H : Hp} {m : Sto} {w1 w2 : W} {x y : V} {b : Bool} (r : R ⟨X.K, cl⟩ F ρ m H) (q1 : RB ⟨X.K, cl⟩ F ρ H w1 x) (q2 : RB ⟨X.K, cl⟩ F ρ H w2 y) (e : eqB w1 w2 m = some b) :
    ∃ d e, Dp X.K H x d ∧ Dp X.K H y e ∧ SeqAt.shaped d = true ∧ SeqAt.shaped e = true ∧ PyData.eqv d e = b := by
  unfold eqB at e
  split at e
  · rename_i d1 d2 h1 h2
    split at e
    · rename_i hs
      cases e
      exact ⟨d1, d2, deref_dp r q1 h1, deref_dp r q2 h2, hs.1, hs.2, rfl⟩
    · cases e
  · cases e
theorem o_eq {k : Nat} (hr : Room k X.A) : OpR X (compareOp .Eq) (rS ⟨X.K, cl⟩ eqW) := by
  intro pins s σ H x y v u Q I rx ry h
  obtain ⟨F, ρ, m, w1, w2, w, r, q1, q2, e, kk⟩ := h
  obtain ⟨b, e1, rfl⟩ := Option.map_eq_some_iff.mp e
  obtain ⟨d1, d2, p1, p2, s1, s2, rfl⟩ := eqB_dp r q1 q2 e1
  exact op_eqD hr.units pins s σ H x y v u Q I rx ry ⟨d1, d2, p1, p2, s1, s2, kk _ F ρ H r .refl rfl⟩
theorem o_ne {k : Nat} (hr : Room k X.A) : OpR X (compareOp .NotEq) (rS ⟨X.K, cl⟩ neW) := by
  intro pins s σ H x y v u Q I rx ry h
  obtain ⟨F, ρ, m, w1, w2, w, r, q1, q2, e, kk⟩ := h
  obtain ⟨b, e1, rfl⟩ := Option.map_eq_some_iff.mp e
  obtain ⟨d1, d2, p1, p2, s1, s2, rfl⟩ := eqB_dp r q1 q2 e1
  exact op_neD hr.units pins s σ H x y v u Q I rx ry ⟨d1, d2, p1, p2, s1, s2, kk _ F ρ H r .refl rfl⟩

/-! ### is None -/
def isNW : W → W → Sto → Option W
  | .non, .non, _ => some (.bl true)
  | _, .non, _ => some (.bl false)
  | _, _, _ => none
def notNW (a b : W) (m : Sto) : Option W := match isNW a b m with
  | some (.bl k) => some (.bl (!k))
  | _ => none
theorem RB.notNon {F : Hp} {ρ : List Addr} {H : Hp} {w : W} {v : V} {c : Cn} (q : RB c F ρ H w v) (n : w ≠ .non) : v ≠ .non := by
  rcases q with q | ⟨a, h, o, rfl, _⟩
  · cases w with
    | non => exact absurd rfl n
    | bl _ => intro e; rw [e] at q; cases (show V.non = _ from q)
    | int _ => intro e; rw [e] at q; cases (show V.non = _ from q)
    | str _ => intro e; rw [e] at q; cases (show V.non = _ from q)
    | tup _ => unfold RW at q; obtain ⟨a, vs, rfl, _⟩ := q; intro e; cases e
    | lst _ => unfold RW at q; obtain ⟨a, vs, rfl, _⟩ := q; intro e; cases e
    | dct _ _ => unfold RW at q; obtain ⟨a, o, rfl, _⟩ := q; intro e; cases e
    | tree _ _ _ _ => unfold RW at q; obtain ⟨a, dx, gs, t, r, rfl, _⟩ := q; intro e; cases e
    | obj _ _ _ => unfold RW at q; obtain ⟨a, dx, gs, rfl, _⟩ := q; intro e; cases e
    | ref _ => unfold RW at q; obtain ⟨a, rfl, _⟩ := q; intro e; cases e
    | ty _ => intro e; rw [e] at q; cases (show V.non = _ from q)
    | cls _ => intro e; rw [e] at q; cases (show V.non = _ from q)
  · intro e; cases e
theorem isNW_dec {F : Hp} {ρ : List Addr} {H : Hp} {m : Sto} {w1 w2 w : W} {x y : V} {c : Cn} (q1 : RB c F ρ H w1 x) (q2 : RB c F ρ H w2 y) (e : isNW w1 w2 m = some w) : y = .non ∧ w = .bl (decide (x = .non)) := by
  unfold isNW at e
  split at e
  · cases e
    refine ⟨q2.non, ?_⟩
    rw [q1.non]
    rfl
  · rename_i hn
    cases e
    refine ⟨q2.non, ?_⟩
    rw [decide_eq_false (q1.notNon fun z => hn z)]
  · cases e
theorem o_isN : OpR X (compareOp .Is) (rS ⟨X.K, cl⟩ isNW) := by
  intro pins s σ H x y v u Q I rx ry h
  obtain ⟨F, ρ, m, w1, w2, w, r, q1, q2, e, kk⟩ := h
  obtain ⟨e1, e2⟩ := isNW_dec q1 q2 e
  exact op_isN pins s σ H x y v u Q I rx ry ⟨e1, kk _ F ρ H r .refl (by rw [e2]; rfl)⟩
theorem o_notN : OpR X (compareOp .IsNot) (rS ⟨X.K, cl⟩ notNW) := by
  intro pins s σ H x y v u Q I rx ry h
  obtain ⟨F, ρ, m, w1, w2, w, r, q1, q2, e, kk⟩ := h
  unfold notNW at e
  split at e
  · rename_i k e0
    obtain ⟨e1, e2⟩ := isNW_dec q1 q2 e0
    cases e
    cases e2
    exact op_notN pins s σ H x y v u Q I rx ry ⟨e1, kk _ F ρ H r .refl rfl⟩
  · cases e

/-! ### in -/
def vOf : W → Option V
  | .non => some .non
  | .bl b => some (.bl b)
  | .int i => some (.int i)
  | .str x => some (.str x)
  | _ => none
def vsOf : List W → Option (List V)
  | [] => some []
  | w :: r => match vOf w, vsOf r with
    | some v, some vs => some (v :: vs)
    | _, _ => none
theorem vOf_eq {F : Hp} {ρ : List Addr} {H : Hp} {w : W} {v v' : V} {c : Cn} (q : RB c F ρ H w v) (e : vOf w = some v') : v = v' := by
  cases w with
  | non => cases e; exact q.non
  | bl _ => cases e; exact q.bl
  | int _ => cases e; exact q.int
  | str _ => cases e; exact q.str
  | _ => cases e
theorem vsOf_eq {F : Hp} {ρ : List Addr} {c : Cn} : ∀ {ws : List W} {vs vs' : List V}, RWs c F ρ ws vs → vsOf ws = some vs' → vs = vs'
  | [], vs, vs', h, e => by
    cases e
    exact h
  | w :: ws, vs, vs', h, e => by
    obtain ⟨v, r, rfl, h1, t⟩ := h.inv
    unfold vsOf at e
    cases e1 : vOf w with
    | none =>
      rw [e1] at e
      cases e
    | some v' =>
      cases e2 : vsOf ws with
      | none =>
        rw [e1, e2] at e
        cases e
      | some r' =>
        rw [e1, e2] at e
        cases e
        rw [vOf_eq (H := F) (.inl h1) e1, vsOf_eq t e2]
def inSeq (x : W) (ys : List W) : Option Bool := match vOf x, vsOf ys with
  | some v, some vs => if flatV v = true ∧ vs.all flatV = true then some (inV v vs) else none
  | _, _ => none
def inB : W → W → Sto → Option Bool
  | x, .tup ys, _ => inSeq x ys
  | x, .lst ys, _ => inSeq x ys
  | .str a, .str b, _ => some (!(Builtin.Str.occurrences b a 0 b.length 1).isEmpty)
  | x, .ref i, m => match m[i]? with
    | some (.lst ys) => inSeq x ys
    | _ => none
  | _, _, _ => none
def inW (a b : W) (m : Sto) : Option W := (inB a b m).map .bl
def ninW (a b : W) (m : Sto) : Option W := (inB a b m).map fun k => .bl (!k)
theorem inSeq_of {F : Hp} {ρ : List Addr} {H : Hp} {x : W} {v : V} {ys : List W} {vs : List V} {b : Bool} {c : Cn} (q1 : RB c F ρ H x v) (t : RWs c F ρ ys vs) (e : inSeq x ys = some b) : flatV v = true ∧ vs.all flatV = true ∧ inV v vs = b := by
  unfold inSeq at e
  split at e
  · rename_i v' vs' h1 h2
    split at e
    · rename_i hf
      cases e
      rw [vOf_eq q1 h1, vsOf_eq t h2]
      exact ⟨hf.1, hf.2, rfl⟩
    · cases e
  · cases e
theorem inB_of {F : Hp} {ρ : List Addr} {H : Hp} {m : Sto} {w1 w2 : W} {x y : V} {b : Bool} (r : R ⟨X.K, cl⟩ F ρ m H) (q1 : RB ⟨X.K, cl⟩ F ρ H w1 x) (q2 : RB ⟨X.K, cl⟩ F ρ H w2 y) (e : inB w1 w2 m = some b) :
    (∃ p xs, y = .ref p ∧ (SqL X.K H p xs ∨ SqT X.K H p xs) ∧ flatV x = true ∧ xs.all flatV = true ∧ inV x xs = b) ∨ ∃ i j, x = .str i ∧ y = .str j ∧ (!(Builtin.Str.occurrences j i 0 j.length 1).isEmpty) = b := by
  unfold inB at e
  split at e
  · obtain ⟨a, vs, rfl, h1, t⟩ := q2.tup r
    exact .inl ⟨a, vs, rfl, .inr h1, inSeq_of q1 t e⟩
  · obtain ⟨a, vs, rfl, h1, t⟩ := q2.lst r
    exact .inl ⟨a, vs, rfl, .inl (.inl h1), inSeq_of q1 t e⟩
  · cases e
    exact .inr ⟨_, _, q1.str, q2.str, rfl⟩
  · obtain ⟨a, rfl, h1⟩ := q2.ref
    split at e
    · rename_i ys h2
      obtain ⟨vs, h3, t⟩ := r.lst h1 h2
      exact .inl ⟨a, vs, rfl, .inl (.of h3), inSeq_of q1 t e⟩
    · cases e
  · cases e
theorem o_in : OpR X (compareOp .In) (rS ⟨X.K, cl⟩ inW) := by
  intro pins s σ H x y v u Q I rx ry h
  obtain ⟨F, ρ, m, w1, w2, w, r, q1, q2, e, kk⟩ := h
  obtain ⟨b, e1, rfl⟩ := Option.map_eq_some_iff.mp e
  have k1 := kk _ F ρ H r .refl rfl
  rcases inB_of r q1 q2 e1 with ⟨p, xs, rfl, h1, h2, h3, rfl⟩ | ⟨i, j, rfl, rfl, rfl⟩
  · exact op_in_seq pins s σ H x _ v u Q I rx ry ⟨p, xs, rfl, h1, h2, h3, k1⟩
  · exact op_in_str pins s σ H _ _ v u Q I rx ry ⟨i, j, rfl, rfl, k1⟩
theorem o_nin : OpR X (compareOp .NotIn) (rS ⟨X.K, cl⟩ ninW) := by
  intro pins s σ H x y v u Q I rx ry h
  obtain ⟨F, ρ, m, w1, w2, w, r, q1, q2, e, kk⟩ := h
  obtain ⟨b, e1, rfl⟩ := Option.map_eq_some_iff.mp e
  have k1 := kk _ F ρ H r .refl rfl
  rcases inB_of r q1 q2 e1 with ⟨p, xs, rfl, h1, h2, h3, rfl⟩ | ⟨i, j, rfl, rfl, rfl⟩
  · exact op_notIn_seq pins s σ H x _ v u Q I rx ry ⟨p, xs, rfl, h1, h2, h3, k1⟩
  · exact op_notin_str pins s σ H _ _ v u Q I rx ry ⟨i, j, rfl, rfl, k1⟩
end
end Sm

/-! S10: built-in calls, and | or | not as values, conditional expressions, chains, slices. -/
namespace Sm
open PySem PySem.Spec PyProof.Rows L2

/-! ### arguments that are read -/
def RBs (c : Cn) (F : Hp) (ρ : List Addr) (H : Hp) : List W → List V → Prop
  | [], vs => vs = []
  | w :: ws, vs => ∃ v r, vs = v :: r ∧ RB c F ρ H w v ∧ RBs c F ρ H ws r
theorem RBs.go {c : Cn} {F F' : Hp} {ρ ρ' : List Addr} {H H' : Hp} (g : Go F ρ H F' ρ' H') : ∀ {ws : List W} {vs : List V}, RBs c F ρ H ws vs → RBs c F' ρ' H' ws vs
  | [], _, h => h
  | _ :: _, _, ⟨v, r, e, h, t⟩ => ⟨v, r, e, h.go g, RBs.go g t⟩
section
variable (c : Cn) (Wx : WX)
def OkR (F : Hp) (ρ : List Addr) (H : Hp) (Q : List V → Hp → Prop) (ws : List W) (m' : Sto) : Prop := ∀ vs F' ρ' H', R c F' ρ' m' H' → Go F ρ H F' ρ' H' → RBs c F' ρ' H' ws vs → Q vs H'
def sAr (f : Fas) : TA := fun σ H Q => ∃ F ρ m τ, R c F ρ m H ∧ RS c F ρ τ σ H ∧ Post (OkR c F ρ H Q) (OkX c F ρ H fun k d H' => Wx k d σ H') (f τ m)
end
abbrev SAr (c : Cn) (X : Cx) (Wx : WX) (es : List Expr) (f : Fas) : Prop := PA X es (sAr c Wx f)
/-- a built-in function of values: rC c h, h the worth -/
def rC (c : Cn) (h : List W → Sto → Option W) : List V → Hp → VK → Prop := fun vs H Q => ∃ F ρ m ws w, R c F ρ m H ∧ RBs c F ρ H ws vs ∧ h ws m = some w ∧ OkE c F ρ H Q w m
def eBlt (h : List W → Sto → Option W) (g : Fas) : Fe := fun τ => bnd (g τ) fun ws m => lift (h ws m) m
section
variable {c : Cn} {X : Cx} {Wx : WX} {e : Expr} {es : List Expr} {f : Fe} {g : Fas} {p pos : Pos} {x : Str} {id T : String} {h : List W → Sto → Option W}
theorem ar_nil : SAr c X Wx [] aNil := PA.weak pa_nil fun σ H Q ⟨F, ρ, m, τ, r, s, p⟩ => p [] F ρ H r .refl rfl
theorem ar_cons (he : SR c X Wx e f) (hs : SAr c X Wx es g) (hst : starEach (e :: es) X.env = (false, eval e X.env) :: starEach es X.env := by rfl) : SAr c X Wx (e :: es) (aCons f g) := PA.weak (pa_cons he hs hst) fun σ H Q ⟨F, ρ, m, τ, r, s, p⟩ => by
  refine ⟨F, ρ, m, τ, r, s, ?_⟩
  unfold aCons bnd at p
  cases e : f τ m with
  | bad =>
    rw [e] at p
    exact p
  | exc x m' =>
    rw [e] at p
    exact p
  | ok w m1 =>
    rw [e] at p
    dsimp only at p
    intro v F1 ρ1 H1 r1 g1 q1
    refine ⟨F1, ρ1, m1, τ, r1, s.go g1, ?_⟩
    cases e2 : g τ m1 with
    | bad =>
      rw [e2] at p
      exact p
    | exc x m' =>
      rw [e2] at p
      exact OkX.back r1 g1 p
    | ok ws m2 =>
      rw [e2] at p
      exact fun vs F2 ρ2 H2 r2 g2 q2 => p (v :: vs) F2 ρ2 H2 r2 (g1.trans g2) ⟨v, vs, rfl, q1.go g2, q2⟩
theorem w_blt {σ : L2.St} {H : Hp} {Q : VK} (q : sE c Wx (eBlt h g) σ H Q) : tCB (rC c h) (sAr c Wx g) σ H Q := by
  obtain ⟨F, ρ, m, τ, r, s, p⟩ := q
  refine ⟨F, ρ, m, τ, r, s, ?_⟩
  unfold eBlt bnd at p
  cases e : g τ m with
  | bad =>
    rw [e] at p
    exact p
  | exc x m' =>
    rw [e] at p
    exact p
  | ok ws m1 =>
    rw [e] at p
    dsimp only at p
    intro vs F1 ρ1 H1 r1 g1 q1
    cases e2 : h ws m1 with
    | none =>
      rw [e2] at p
      exact p.elim
    | some w =>
      rw [e2] at p
      exact ⟨F1, ρ1, m1, ws, w, r1, q1, e2, OkE.back g1 p⟩
theorem s_blt (hc : CallR X (.builtin id) (rC c h)) (ha : SAr c X Wx (e :: es) g) (hm : X.mg x = none) (hv : bootBuiltins x = some (.builtin id)) (hg : Gl X x := by rfl) (hn : x ≠ "__name__" := by decide) (hdb : (x == ("__debug__" : Str)) = false := by decide)
    (he : starEach (e :: es) X.env = (false, eval e X.env) :: starEach es X.env := by rfl) (hpl : (backTo pos (starEach es X.env)).any (·.1) = false := by rfl) : SE c X Wx (.Call (.Name x p) (e :: es) [] pos) (eBlt h g) := PE.weak (pe_callB hc hg hm hv ha hn hdb he hpl) fun _ _ _ q => w_blt q
theorem s_blty (hc : CallR X (.type T) (rC c h)) (ha : SAr c X Wx (e :: es) g) (hm : X.mg x = none) (hv : bootBuiltins x = some (.type T)) (hg : Gl X x := by rfl) (hn : x ≠ "__name__" := by decide) (hdb : (x == ("__debug__" : Str)) = false := by decide)
    (he : starEach (e :: es) X.env = (false, eval e X.env) :: starEach es X.env := by rfl) (hpl : (backTo pos (starEach es X.env)).any (·.1) = false := by rfl) : SE c X Wx (.Call (.Name x p) (e :: es) [] pos) (eBlt h g) := PE.weak (pe_callTy hc hg hm hv ha hn hdb he hpl) fun _ _ _ q => w_blt q
theorem RBs.one {F : Hp} {ρ : List Addr} {H : Hp} {w : W} {vs : List V} (q : RBs c F ρ H [w] vs) : ∃ v, vs = [v] ∧ RB c F ρ H w v := by
  obtain ⟨v, r, rfl, h, t⟩ := q
  have e : r = [] := t
  exact ⟨v, by rw [e], h⟩
theorem RBs.two {F : Hp} {ρ : List Addr} {H : Hp} {w1 w2 : W} {vs : List V} (q : RBs c F ρ H [w1, w2] vs) : ∃ v u, vs = [v, u] ∧ RB c F ρ H w1 v ∧ RB c F ρ H w2 u := by
  obtain ⟨v, r, rfl, h, t⟩ := q
  obtain ⟨u, rfl, h2⟩ := RBs.one t
  exact ⟨v, u, rfl, h, h2⟩
end

def lenW : List W → Sto → Option W
  | [.str x], _ => if x.length ≤ sizeLine then some (.int x.length) else none
  | [.tup xs], _ => some (.int xs.length)
  | [.lst xs], _ => some (.int xs.length)
  | [.ref i], m => match m[i]? with
    | some (.lst xs) => some (.int xs.length)
    | _ => none
  | _, _ => none
def absW : List W → Sto → Option W
  | [.int i], _ => some (.int (if i < 0 then -i else i))
  | _, _ => none
def intW : List W → Sto → Option W
  | [.int i], _ => some (.int i)
  | [.bl k], _ => some (.int (if k then 1 else 0))
  | [.str a], _ => if a.length ≤ 640 then (PySem.intText? a).map .int else none
  | _, _ => none
def max2W : List W → Sto → Option W
  | [.int i, .int j], _ => some (.int (if j > i then j else i))
  | _, _ => none
def min2W : List W → Sto → Option W
  | [.int i, .int j], _ => some (.int (if j < i then j else i))
  | _, _ => none
def strW : List W → Sto → Option W
  | [.int i], _ => if i.natAbs.log2 < 1920 then some (.str (toString i)) else none
  | [.str a], _ => some (.str a)
  | _, _ => none
def tupleW : List W → Sto → Option W
  | [.tup xs], _ => some (.tup xs)
  | [.lst xs], _ => some (.tup xs)
  | _, _ => none
section
variable {cl : Str → Addr} {X : Cx} {Wx : WX}
theorem c_len : CallR X (.builtin "len") (rC ⟨X.K, cl⟩ lenW) := by
  intro pins s σ H xs us Q I rv h
  obtain ⟨F, ρ, m, ws, w, r, q, e, k⟩ := h
  unfold lenW at e
  split at e
  · obtain ⟨v, rfl, q1⟩ := q.one
    split at e
    · rename_i hz
      cases e
      exact call_len_str pins s σ H _ us Q I rv ⟨_, by rw [q1.str], hz, k _ F ρ H r .refl rfl⟩
    · cases e
  · obtain ⟨v, rfl, q1⟩ := q.one
    obtain ⟨a, vs, rfl, h1, t⟩ := q1.tup r
    cases e
    exact call_len_seq pins s σ H _ us Q I rv ⟨a, vs, rfl, .inr h1, k _ F ρ H r .refl (by rw [t.length]; rfl)⟩
  · obtain ⟨v, rfl, q1⟩ := q.one
    obtain ⟨a, vs, rfl, h1, t⟩ := q1.lst r
    cases e
    exact call_len_seq pins s σ H _ us Q I rv ⟨a, vs, rfl, .inl (.inl h1), k _ F ρ H r .refl (by rw [t.length]; rfl)⟩
  · obtain ⟨v, rfl, q1⟩ := q.one
    obtain ⟨a, rfl, h1⟩ := q1.ref
    split at e
    · rename_i ys h2
      obtain ⟨vs, h3, t⟩ := r.lst h1 h2
      cases e
      exact call_len_seq pins s σ H _ us Q I rv ⟨a, vs, rfl, .inl (.of h3), k _ F ρ H r .refl (by rw [t.length]; rfl)⟩
    · cases e
  · cases e
theorem c_abs {c : Cn} : CallR X (.builtin "abs") (rC c absW) := by
  intro pins s σ H xs us Q I rv h
  obtain ⟨F, ρ, m, ws, w, r, q, e, k⟩ := h
  unfold absW at e
  split at e
  · obtain ⟨v, rfl, q1⟩ := q.one
    cases e
    exact call_abs pins s σ H _ us Q I rv ⟨_, by rw [q1.int], k _ F ρ H r .refl rfl⟩
  · cases e
theorem c_int {c : Cn} : CallR X (.type "int") (rC c intW) := by
  intro pins s σ H xs us Q I rv h
  obtain ⟨F, ρ, m, ws, w, r, q, e, k⟩ := h
  unfold intW at e
  split at e
  · obtain ⟨v, rfl, q1⟩ := q.one
    cases e
    exact call_int1 pins s σ H _ us Q I rv (.inl ⟨_, by rw [q1.int], k _ F ρ H r .refl rfl⟩)
  · obtain ⟨v, rfl, q1⟩ := q.one
    cases e
    exact call_int1 pins s σ H _ us Q I rv (.inr ⟨_, by rw [q1.bl], k _ F ρ H r .refl rfl⟩)
  · obtain ⟨v, rfl, q1⟩ := q.one
    split at e
    · rename_i hz
      obtain ⟨n, e1, rfl⟩ := Option.map_eq_some_iff.mp e
      exact call_int_str pins s σ H _ us Q I rv ⟨_, n, by rw [q1.str], e1, hz, k _ F ρ H r .refl rfl⟩
    · cases e
  · cases e
theorem c_max2 {c : Cn} (hc : X.calm = true) : CallR X (.builtin "max") (rC c max2W) := by
  intro pins s σ H xs us Q I rv h
  obtain ⟨F, ρ, m, ws, w, r, q, e, k⟩ := h
  unfold max2W at e
  split at e
  · obtain ⟨v, u, rfl, q1, q2⟩ := q.two
    cases e
    exact call_max2 hc pins s σ H _ us Q I rv ⟨_, _, by rw [q1.int, q2.int], k _ F ρ H r .refl rfl⟩
  · cases e
theorem c_min2 {c : Cn} (hc : X.calm = true) : CallR X (.builtin "min") (rC c min2W) := by
  intro pins s σ H xs us Q I rv h
  obtain ⟨F, ρ, m, ws, w, r, q, e, k⟩ := h
  unfold min2W at e
  split at e
  · obtain ⟨v, u, rfl, q1, q2⟩ := q.two
    cases e
    exact call_min2 hc pins s σ H _ us Q I rv ⟨_, _, by rw [q1.int, q2.int], k _ F ρ H r .refl rfl⟩
  · cases e
theorem c_tuple : CallR X (.type "tuple") (rC ⟨X.K, cl⟩ tupleW) := by
  intro pins s σ H xs us Q I rv h
  obtain ⟨F, ρ, m, ws, w, r, q, e, k⟩ := h
  unfold tupleW at e
  split at e
  · obtain ⟨v, rfl, q1⟩ := q.one
    have q0 := q1.scal fun o e => by cases o <;> cases e
    obtain ⟨a, vs, rfl, h1, t⟩ := q1.tup r
    cases e
    exact call_tuple_of pins s σ H _ us Q I rv ⟨a, vs, rfl, .inr ⟨h1, k _ F ρ H r .refl q0⟩⟩
  · obtain ⟨v, rfl, q1⟩ := q.one
    obtain ⟨a, vs, rfl, h1, t⟩ := q1.lst r
    cases e
    exact call_tuple_of pins s σ H _ us Q I rv ⟨a, vs, rfl, .inl ⟨.inl h1, fun l n => k.newT r t l n⟩⟩
  · cases e

/-! ### and, or, not as values; a if t else b -/
variable {c : Cn} {a b t : Expr} {fa fb : Fe} {ft : Ft} {rest : List Expr} {pos : Pos}
def eIf (ft : Ft) (fa fb : Fe) : Fe := fun τ => bnd (ft τ) fun k => if k = true then fa τ else fb τ
theorem s_if (ht : ST c X Wx t ft) (ha : SE c X Wx a fa) (hb : SE c X Wx b fb) : SE c X Wx (.IfExp t a b pos) (eIf ft fa fb) := PE.weak (pe_ifExp ht ha hb) fun σ H Q ⟨F, ρ, m, τ, r, s, p⟩ => by
  refine ⟨F, ρ, m, τ, r, s, ?_⟩
  unfold eIf bnd at p
  cases e : ft τ m with
  | bad =>
    rw [e] at p
    exact p
  | exc x m' =>
    rw [e] at p
    exact p
  | ok k m1 =>
    rw [e] at p
    dsimp only at p
    intro F1 ρ1 H1 r1 g1
    have fin : ∀ {f : Fe}, Post (OkE c F ρ H Q) (OkX c F ρ H fun k d H' => Wx k d σ H') (f τ m1) → sE c Wx f σ H1 Q := fun {f} q => ⟨F1, ρ1, m1, τ, r1, s.go g1, by
      cases e2 : f τ m1 with
      | bad =>
        rw [e2] at q
        exact q
      | exc x m' =>
        rw [e2] at q
        exact OkX.back r1 g1 q
      | ok w m2 =>
        rw [e2] at q
        exact OkE.back g1 q⟩
    cases k with
    | true =>
      rw [if_pos rfl] at p ⊢
      exact fin p
    | false =>
      rw [if_neg Bool.false_ne_true] at p ⊢
      exact fin p
def eNot (ft : Ft) : Fe := fun τ => bnd (ft τ) fun k m => .ok (.bl (!k)) m
def eOr (fa fb : Fe) : Fe := fun τ => bnd (fa τ) fun w m => match truW w m with
  | some true => .ok w m
  | some false => fb τ m
  | none => .bad
def eAnd (fa fb : Fe) : Fe := fun τ => bnd (fa τ) fun w m => match truW w m with
  | some true => fb τ m
  | some false => .ok w m
  | none => .bad
theorem s_bone {op} (ha : SE c X Wx a fa) : SE c X Wx (.BoolOp op [a] pos) fa := pe_one ha
theorem s_or (ha : SE ⟨X.K, cl⟩ X Wx a fa) (hb : SE ⟨X.K, cl⟩ X Wx (.BoolOp .Or (b :: rest) pos) fb) : SE ⟨X.K, cl⟩ X Wx (.BoolOp .Or (a :: b :: rest) pos) (eOr fa fb) := PE.weak (pe_orT ha hb) fun σ H Q ⟨F, ρ, m, τ, r, s, p⟩ => by
  refine ⟨F, ρ, m, τ, r, s, ?_⟩
  unfold eOr bnd at p
  cases e : fa τ m with
  | bad =>
    rw [e] at p
    exact p
  | exc x m' =>
    rw [e] at p
    exact p
  | ok w m1 =>
    rw [e] at p
    dsimp only at p
    intro v F1 ρ1 H1 r1 g1 q1
    cases e2 : truW w m1 with
    | none =>
      rw [e2] at p
      exact p.elim
    | some k =>
      rw [e2] at p
      refine ⟨k, tru_of r1 (.inl q1) e2, ?_⟩
      cases k with
      | true =>
        rw [if_pos rfl]
        exact p v F1 ρ1 H1 r1 g1 q1
      | false =>
        rw [if_neg Bool.false_ne_true]
        refine ⟨F1, ρ1, m1, τ, r1, s.go g1, ?_⟩
        dsimp only at p
        cases e3 : fb τ m1 with
        | bad =>
          rw [e3] at p
          exact p
        | exc x m' =>
          rw [e3] at p
          exact OkX.back r1 g1 p
        | ok w m2 =>
          rw [e3] at p
          exact OkE.back g1 p
theorem s_and (ha : SE ⟨X.K, cl⟩ X Wx a fa) (hb : SE ⟨X.K, cl⟩ X Wx (.BoolOp .And (b :: rest) pos) fb) : SE ⟨X.K, cl⟩ X Wx (.BoolOp .And (a :: b :: rest) pos) (eAnd fa fb) := PE.weak (pe_andT ha hb) fun σ H Q ⟨F, ρ, m, τ, r, s, p⟩ => by
  refine ⟨F, ρ, m, τ, r, s, ?_⟩
  unfold eAnd bnd at p
  cases e : fa τ m with
  | bad =>
    rw [e] at p
    exact p
  | exc x m' =>
    rw [e] at p
    exact p
  | ok w m1 =>
    rw [e] at p
    dsimp only at p
    intro v F1 ρ1 H1 r1 g1 q1
    cases e2 : truW w m1 with
    | none =>
      rw [e2] at p
      exact p.elim
    | some k =>
      rw [e2] at p
      refine ⟨k, tru_of r1 (.inl q1) e2, ?_⟩
      cases k with
      | false =>
        rw [if_neg Bool.false_ne_true]
        exact p v F1 ρ1 H1 r1 g1 q1
      | true =>
        rw [if_pos rfl]
        refine ⟨F1, ρ1, m1, τ, r1, s.go g1, ?_⟩
        dsimp only at p
        cases e3 : fb τ m1 with
        | bad =>
          rw [e3] at p
          exact p
        | exc x m' =>
          rw [e3] at p
          exact OkX.back r1 g1 p
        | ok w m2 =>
          rw [e3] at p
          exact OkE.back g1 p
def eNotV (fa : Fe) : Fe := fun τ => bnd (fa τ) fun w m => match truW w m with
  | some k => .ok (.bl (!k)) m
  | none => .bad
theorem s_not (ha : SR ⟨X.K, cl⟩ X Wx a fa) : SE ⟨X.K, cl⟩ X Wx (.UnaryOp .Not a pos) (eNotV fa) := PE.weak (pe_notT ha) fun σ H Q ⟨F, ρ, m, τ, r, s, p⟩ => by
  refine ⟨F, ρ, m, τ, r, s, ?_⟩
  unfold eNotV bnd at p
  cases e : fa τ m with
  | bad =>
    rw [e] at p
    exact p
  | exc x m' =>
    rw [e] at p
    exact p
  | ok w m1 =>
    rw [e] at p
    dsimp only at p
    intro v F1 ρ1 H1 r1 g1 q1
    cases e2 : truW w m1 with
    | none =>
      rw [e2] at p
      exact p.elim
    | some k =>
      rw [e2] at p
      exact ⟨k, tru_of r1 q1 e2, p _ F1 ρ1 H1 r1 g1 rfl⟩
end
end Sm

/-! S11: things that change: places of the store, own lists; slices. -/
namespace Sm
open PySem PySem.Spec PyProof.Rows L2

section
variable {c : Cn} {F F1 : Hp} {ρ ρ1 : List Addr} {m : Sto} {H H1 : Hp}
/-- a place of the store changes -/
theorem R.setS {i : Nat} {a : Addr} {o o' : MO} {u : HO} (r : R c F ρ m H) (h : ρ[i]? = some a) (e : m[i]? = some o) (q : OR c F ρ a o' u) : R c F ρ (m.set i o') (upd H a u) ∧ Go F ρ H F ρ (upd H a u) := by
  have ha : a ∈ ρ := List.mem_of_getElem? h
  have hf := r.off a ha
  refine ⟨⟨fun b z e => ?_, by rw [List.length_set]; exact r.len, r.nd, r.off, fun j b oo h1 h2 => ?_⟩, ⟨Same.refl _, .refl _, fun b z e n => ?_, fun b z e n => ⟨n, fun z => z⟩⟩⟩
  · rw [upd_ne (fun w => by rw [w, hf] at e; cases e)]
    exact r.sub b z e
  · rcases get_set h2 with ⟨e1, e2⟩ | ⟨ne, h2⟩
    · subst e1 e2
      rw [h] at h1
      cases h1
      exact ⟨u, upd_same, q⟩
    · obtain ⟨ho, h5, h6⟩ := r.at_ j b oo h1 h2
      refine ⟨ho, ?_, h6⟩
      rw [upd_ne (fun w => ?_)]
      · exact h5
      · subst w
        exact ne ((List.getElem?_inj (by have := (List.getElem?_eq_some_iff.mp h).1; exact this) r.nd).mp (h.trans h1.symm))
  · rw [upd_ne (fun w => n (by rw [w]; exact ha))]
    exact e
/-- an object that nobody holds becomes a place of the store -/
theorem R.push {a : Addr} {o : MO} {u : HO} (r : R c F ρ m H) (hf : F a = none) (hn : a ∉ ρ) (ha : H a = some u) (q : OR c F ρ a o u) : R c F (ρ ++ [a]) (m ++ [o]) H := by
  have pre : Pre ρ (ρ ++ [a]) := fun i b h => by
    rw [List.getElem?_append_left (List.getElem?_eq_some_iff.mp h).1]
    exact h
  refine ⟨r.sub, by rw [List.length_append, List.length_append, r.len]; rfl, ?_, fun b hb => ?_, fun i b oo h1 h2 => ?_⟩
  · rw [List.nodup_append]
    refine ⟨r.nd, by simp, fun x hx y hy => ?_⟩
    have e : y = a := by simpa using hy
    rw [e]
    exact fun z => hn (by rw [← z]; exact hx)
  · rcases List.mem_append.mp hb with hb | hb
    · exact r.off b hb
    · have e : b = a := by simpa using hb
      rw [e]
      exact hf
  · by_cases hi : i < ρ.length
    · rw [List.getElem?_append_left hi] at h1
      rw [List.getElem?_append_left (by rw [← r.len]; exact hi)] at h2
      obtain ⟨ho, h5, h6⟩ := r.at_ i b oo h1 h2
      exact ⟨ho, h5, h6.mono (Same.refl _) pre⟩
    · have hi2 : i = ρ.length := by
        have := (List.getElem?_eq_some_iff.mp h1).1
        rw [List.length_append] at this
        simp at this
        omega
      subst hi2
      rw [List.getElem?_append_right (Nat.le_refl _)] at h1
      rw [List.getElem?_append_right (by rw [r.len]; exact Nat.le_refl _), r.len] at h2
      simp at h1 h2
      subst h1 h2
      exact ⟨u, ha, q.mono (Same.refl _) pre⟩
theorem Go.push {a : Addr} (g : Go F ρ H F1 ρ1 H1) (h0 : H a = none) : Go F ρ H F1 (ρ1 ++ [a]) H1 := by
  refine ⟨g.ff, fun i b h => ?_, g.keep, fun b o e n => ⟨fun w => ?_, (g.off b o e n).2⟩⟩
  · have h' := g.pre i b h
    rw [List.getElem?_append_left (List.getElem?_eq_some_iff.mp h').1]
    exact h'
  · rcases List.mem_append.mp w with w | w
    · exact (g.off b o e n).1 w
    · have e' : b = a := by simpa using w
      rw [e', h0] at e
      cases e
end

section
variable {c : Cn} {X : Cx} {Wx : WX} {e : Expr} {es : List Expr} {fo f : Fe} {g : Fas} {pos apos cpos : Pos}
/-- a new list becomes a place of the store -/
def ePush (g : Fas) : Fe := fun τ => bnd (g τ) fun ws m => .ok (.ref m.length) (m ++ [.lst ws])
theorem SN.push (h : SN c X Wx e g) : SE c X Wx e (ePush g) := PE.weak h fun σ H Q ⟨F, ρ, m, τ, r, s, p⟩ => ⟨F, ρ, m, τ, r, s, by
  unfold ePush bnd at p
  cases e : g τ m with
  | bad =>
    rw [e] at p
    exact p
  | exc x m' =>
    rw [e] at p
    exact p
  | ok ws m1 =>
    rw [e] at p
    intro a vs F1 ρ1 H1 r1 g1 h0 hf hn ha q
    refine p _ _ _ _ (r1.push hf hn ha ⟨vs, rfl, q⟩) (g1.push h0) ?_
    unfold RW
    exact ⟨a, rfl, by rw [← r1.len, List.getElem?_append_right (Nat.le_refl _)]; simp⟩⟩

/-! ### methods of a list of the store -/
def rM (c : Cn) (h : List W → List W → Option (W × List W)) : V → List V → Hp → VK → Prop := fun x vs H Q => ∃ F ρ m i a xs ws w ys, x = .ref a ∧ ρ[i]? = some a ∧ m[i]? = some (.lst xs) ∧ R c F ρ m H ∧ RWs c F ρ ws vs ∧ h xs ws = some (w, ys) ∧ OkE c F ρ H Q w (m.set i (.lst ys))
def eMt (h : List W → List W → Option (W × List W)) (fo : Fe) (g : Fas) : Fe := fun τ => bnd (fo τ) fun o m => match o with
  | .ref i => match m[i]? with
    | some (.lst _) => bnd (g τ) (fun ws m2 => match m2[i]? with
      | some (.lst xs) => (match h xs ws with
        | some (w, ys) => .ok w (m2.set i (.lst ys))
        | none => .bad)
      | _ => .bad) m
    | _ => .bad
  | _ => .bad
theorem w_mt {cl : Str → Addr} {h : List W → List W → Option (W × List W)} {σ : L2.St} {H : Hp} {Q : VK} (q : sE ⟨X.K, cl⟩ Wx (eMt h fo g) σ H Q) : tBM X.K "list" (rM ⟨X.K, cl⟩ h) (sE ⟨X.K, cl⟩ Wx fo) (sA ⟨X.K, cl⟩ Wx g) σ H Q := by
  obtain ⟨F, ρ, m, τ, r, s, p⟩ := q
  refine ⟨F, ρ, m, τ, r, s, ?_⟩
  unfold eMt bnd at p
  cases e : fo τ m with
  | bad =>
    rw [e] at p
    exact p
  | exc x m' =>
    rw [e] at p
    exact p
  | ok o m1 =>
    rw [e] at p
    dsimp only at p
    intro v F1 ρ1 H1 r1 g1 q1
    cases o with
    | ref i =>
      dsimp only at p
      unfold RW at q1
      obtain ⟨a, rfl, h1⟩ := q1
      split at p
      · rename_i xs0 h2
        obtain ⟨vs0, h3, t0⟩ := r1.lst h1 h2
        refine ⟨.inl ⟨rfl, _, .of h3⟩, F1, ρ1, m1, τ, r1, s.go g1, ?_⟩
        cases e2 : g τ m1 with
        | bad =>
          rw [e2] at p
          exact p
        | exc x m' =>
          rw [e2] at p
          exact OkX.back r1 g1 p
        | ok ws m2 =>
          rw [e2] at p
          intro vs F2 ρ2 H2 r2 g2 q2
          dsimp only at p
          split at p
          · rename_i xs h4
            split at p
            · rename_i w ys h5
              exact ⟨F2, ρ2, m2, i, a, xs, ws, w, ys, rfl, g2.pre i a h1, h4, r2, q2, h5, OkE.back (g1.trans g2) p⟩
            · exact p.elim
          · exact p.elim
      · exact p.elim
    | _ => exact p.elim
def appS : List W → List W → Option (W × List W)
  | xs, [w] => if xs.length < sizeLine then some (.non, xs ++ [w]) else none
  | _, _ => none
def popS : List W → List W → Option (W × List W)
  | xs, [] => (xs[xs.length - 1]?).map fun w => (w, xs.dropLast)
  | xs, [.int i] => if -(2 ^ 63) ≤ i ∧ i < 2 ^ 63 then (match seqIndex? i xs.length with
    | some k => (xs[k]?).map fun w => (w, xs.eraseIdx k)
    | none => none) else none
  | _, _ => none
theorem RWs.dropLast {F : Hp} {ρ : List Addr} {ws : List W} {vs : List V} (h : RWs c F ρ ws vs) : RWs c F ρ ws.dropLast vs.dropLast := by
  rw [List.dropLast_eq_take, List.dropLast_eq_take, h.length]
  exact h.take _
theorem RWs.erase {F : Hp} {ρ : List Addr} : ∀ {ws : List W} {vs : List V} (i : Nat), RWs c F ρ ws vs → RWs c F ρ (ws.eraseIdx i) (vs.eraseIdx i)
  | [], vs, _, h => by
    have e : vs = [] := h
    rw [e]
    exact .nil
  | w :: ws, vs, 0, h => by
    obtain ⟨v, r, rfl, _, t⟩ := h.inv
    exact t
  | w :: ws, vs, i + 1, h => by
    obtain ⟨v, r, rfl, h1, t⟩ := h.inv
    exact .cons h1 (RWs.erase i t)
theorem m_append : MtM X "list.append" (rM c appS) := by
  intro pins s σ H x vs v us Q I rx rv h
  obtain ⟨F, ρ, m, i, a, xs, ws, w, ys, rfl, h1, h2, r, q, e, k⟩ := h
  obtain ⟨vs0, h3, t⟩ := r.lst h1 h2
  unfold appS at e
  split at e
  · split at e
    · rename_i w0 hz
      cases e
      obtain ⟨v1, rr, rfl, q1, q2⟩ := q.inv
      have e0 : rr = [] := q2
      subst e0
      have e1 := t.append (.cons q1 .nil)
      obtain ⟨r2, g2⟩ := r.setS h1 h2 (o' := .lst (xs ++ [w0])) (u := .lst (vs0 ++ [v1])) ⟨_, rfl, e1⟩
      exact mt_append pins s σ H _ _ v us Q I rx rv ⟨a, vs0, v1, rfl, rfl, h3, by rw [t.length]; exact hz, k _ F ρ _ r2 g2 rfl⟩
    · cases e
  · cases e
theorem m_pop : MtM X "list.pop" (rM c popS) := by
  intro pins s σ H x vs v us Q I rx rv h
  obtain ⟨F, ρ, m, i, a, xs, ws, w, ys, rfl, h1, h2, r, q, e, k⟩ := h
  obtain ⟨vs0, h3, t⟩ := r.lst h1 h2
  unfold popS at e
  split at e
  · have e0 : vs = [] := q
    subst e0
    obtain ⟨w0, e1, e2⟩ := Option.map_eq_some_iff.mp e
    cases e2
    obtain ⟨v1, p1, p2⟩ := t.get e1
    obtain ⟨r2, g2⟩ := r.setS h1 h2 (o' := .lst xs.dropLast) (u := .lst vs0.dropLast) ⟨_, rfl, t.dropLast⟩
    exact mt_pop pins s σ H _ _ v us Q I rx rv ⟨a, vs0, v1, rfl, rfl, h3, by rw [t.length]; exact p1, k _ F ρ _ r2 g2 p2⟩
  · split at e
    · rename_i j hb
      split at e
      · rename_i kk hk
        obtain ⟨w0, e1, e2⟩ := Option.map_eq_some_iff.mp e
        cases e2
        obtain ⟨v1, p1, p2⟩ := t.get e1
        obtain ⟨r2, g2⟩ := r.setS h1 h2 (o' := .lst (xs.eraseIdx kk)) (u := .lst (vs0.eraseIdx kk)) ⟨_, rfl, t.erase kk⟩
        exact mt_popAt pins s σ H _ _ v us Q I rx rv ⟨a, vs0, j, kk, v1, rfl, q.ints, h3, hb.1, hb.2, by rw [t.length]; exact hk, p1, k _ F ρ _ r2 g2 p2⟩
      · cases e
    · cases e
  · cases e

variable {cl : Str → Addr} {o : Expr}
theorem s_append (ho : SE ⟨X.K, cl⟩ X Wx o fo) (ha : SA ⟨X.K, cl⟩ X Wx (e :: es) g) (hbase : attributeBase o "append" X.env (eval o X.env) = eval o X.env := by rfl)
    (hfew : ((backTo cpos (starEach (e :: es) X.env)).all (fun x => !x.1) && (backToKw cpos (keywordEach [] X.env)).all (fun x => x.1.isSome)
      && decide ((e :: es).length + ([] : List Keyword).length + (if ([] : List Keyword).isEmpty then 0 else 1) < 30)) = true := by rfl)
    (hline : (apos.endLine == cpos.line) = true := by rfl) (hs : starEach (e :: es) X.env = (false, eval e X.env) :: starEach es X.env := by rfl) (hplain : (backTo cpos (starEach es X.env)).any (·.1) = false := by rfl) :
    SE ⟨X.K, cl⟩ X Wx (.Call (.Attribute o "append" apos) (e :: es) [] cpos) (eMt appS fo g) := PE.weak (pe_bm PySem.F.plainAttrs_list PySem.F.slot_list_append PySem.F.type_list_append m_append ho ha hbase hfew hline hs hplain) fun _ _ _ q => w_mt q
theorem s_popAt (ho : SE ⟨X.K, cl⟩ X Wx o fo) (ha : SA ⟨X.K, cl⟩ X Wx (e :: es) g) (hbase : attributeBase o "pop" X.env (eval o X.env) = eval o X.env := by rfl)
    (hfew : ((backTo cpos (starEach (e :: es) X.env)).all (fun x => !x.1) && (backToKw cpos (keywordEach [] X.env)).all (fun x => x.1.isSome)
      && decide ((e :: es).length + ([] : List Keyword).length + (if ([] : List Keyword).isEmpty then 0 else 1) < 30)) = true := by rfl)
    (hline : (apos.endLine == cpos.line) = true := by rfl) (hs : starEach (e :: es) X.env = (false, eval e X.env) :: starEach es X.env := by rfl) (hplain : (backTo cpos (starEach es X.env)).any (·.1) = false := by rfl) :
    SE ⟨X.K, cl⟩ X Wx (.Call (.Attribute o "pop" apos) (e :: es) [] cpos) (eMt popS fo g) := PE.weak (pe_bm PySem.F.plainAttrs_list PySem.F.slot_list_pop PySem.F.type_list_pop m_pop ho ha hbase hfew hline hs hplain) fun _ _ _ q => w_mt q
theorem s_pop (ho : SE ⟨X.K, cl⟩ X Wx o fo) (hbase : attributeBase o "pop" X.env (eval o X.env) = eval o X.env := by rfl) (hline : (apos.endLine == cpos.line) = true := by rfl) :
    SE ⟨X.K, cl⟩ X Wx (.Call (.Attribute o "pop" apos) [] [] cpos) (eMt popS fo aNil) := PE.weak (pe_bm0 PySem.F.plainAttrs_list PySem.F.slot_list_pop PySem.F.type_list_pop m_pop ho hbase hline) fun σ H Q q => by
  obtain ⟨F, ρ, m, τ, r, s, p⟩ := w_mt q
  refine ⟨F, ρ, m, τ, r, s, ?_⟩
  cases e : fo τ m with
  | bad =>
    rw [e] at p
    exact p
  | exc x m' =>
    rw [e] at p
    exact p
  | ok w m1 =>
    rw [e] at p
    intro v F1 ρ1 H1 r1 g1 q1
    obtain ⟨h1, F2, ρ2, m2, τ2, r2, s2, p2⟩ := p v F1 ρ1 H1 r1 g1 q1
    exact ⟨h1, p2 [] F2 ρ2 H1 r2 .refl rfl⟩

theorem useG {B : Bs} {F : Hp} {ρ : List Addr} {m : Sto} {τ : SS} {σ : L2.St} {H : Hp} {f : Fe} {k : W → Sto → Res Out} {Q : VK} {D : Ends} (fr : Fr c B F ρ m τ σ H) (p : Post (okS c Wx B D) (fun _ _ => False) (exS (f τ m) τ k))
    (h : ∀ w m' v F' ρ' H', Go F ρ H F' ρ' H' → Fr c B F' ρ' m' τ σ H' → RW c F' ρ' w v → Post (okS c Wx B D) (fun _ _ => False) (k w m') → Q v H') : sE c Wx f σ H Q := by
  refine ⟨F, ρ, m, τ, fr.r, fr.s, ?_⟩
  unfold exS at p
  cases e : f τ m with
  | bad =>
    rw [e] at p
    exact p
  | exc x m' =>
    rw [e] at p
    exact Fr.ex (D := D) fr p
  | ok w m1 =>
    rw [e] at p
    exact fun v F1 ρ1 H1 r1 g1 q => h w m1 v F1 ρ1 H1 g1 (fr.go r1 g1) q p
/-! ### o[i] = v for a place of the store -/
def sSetIx (fe fo fi : Fe) : Fs := fun τ m => exS (fe τ m) τ fun w m1 => exS (fo τ m1) τ fun b m2 => exS (fi τ m2) τ fun k m3 => match b, k with
  | .ref j, .int n => (match m3[j]? with
    | some (.lst xs) => (match ixN xs.length n with
      | some q => .ok (.nx τ) (m3.set j (.lst (xs.set q w)))
      | none => .bad)
    | _ => .bad)
  | _, _ => .bad
variable {B : Bs} {i : Expr} {fi fe : Fe} {spos : Pos}
theorem x_setIx (he : SE c X Wx e fe) (ho : SE c X Wx o fo) (hi : SE c X Wx i fi) (hs : swapsWithSole [.Subscript o i apos] e pos.line X.env = pure false := by rfl) (hw : swappedStores [.Subscript o i apos] e X.env = pure none := by rfl)
    (h1 : (assignEach [.Subscript o i apos] X.env).map (·.2) = [assign (.Subscript o i apos) X.env] := by rfl)
    (ha : ∀ v, assign (.Subscript o i apos) X.env v = (do
      let ov ← holding [v] (eval o X.env)
      let iv ← holding [v, ov] (eval i X.env)
      standAt apos
      holding [v, ov, iv] (setItem ov iv v)
      release [v, ov, iv] []) := by intro _; rfl) : SX c X Wx B (.Assign [.Subscript o i apos] e pos) (sSetIx fe fo fi) :=
  PS.weak (ps_asg he (pg_sub ho hi set_list ha) hs hw h1) fun D σ H ⟨F, ρ, m, τ, fr, p⟩ => useG fr p fun w m1 v F1 ρ1 H1 g1 fr1 q1 p1 => useG fr1 p1 fun b m2 vo F2 ρ2 H2 g2 fr2 q2 p2 => useG fr2 p2 fun k m3 vi F3 ρ3 H3 g3 fr3 q3 p3 => by
    cases b with
    | ref j =>
      cases k with
      | int n =>
        dsimp only at p3
        unfold RW at q2
        obtain ⟨a, rfl, h1⟩ := q2
        have e3 : vi = .int n := q3
        subst e3
        split at p3
        · rename_i xs h2
          split at p3
          · rename_i q h4
            have h1' := g3.pre j a h1
            obtain ⟨vs, h3, t⟩ := fr3.r.lst h1' h2
            have hq := (q1.mono (g2.trans g3).ff (g2.trans g3).pre)
            obtain ⟨r2, g4⟩ := fr3.r.setS h1' h2 (o' := .lst (xs.set q w)) (u := .lst (vs.set q v)) ⟨_, rfl, t.set q hq⟩
            exact ⟨a, vs, n, q, rfl, rfl, h3, by rw [t.length]; exact h4, p3 σ F3 ρ3 _ (fr3.go r2 g4)⟩
          · exact p3.elim
        · exact p3.elim
      | _ => exact p3.elim
    | _ => cases k <;> exact p3.elim

/-! ### an own list grows -/
def sApp (i : Nat) (f : Fe) : Fs := fun τ m => match τ[i]? with
  | some (.own (.lst xs)) => exS (f τ m) τ fun w m' => if xs.length < sizeLine then .ok (.nx (τ.set i (.own (.lst (xs ++ [w]))))) m' else .bad
  | _ => .bad
theorem x_append {i : Nat} {x : Str} {np : Pos} {f : Fe} (he : SE ⟨X.K, cl⟩ X Wx e f) (hN : X.N[i]? = some x := by rfl) (hv : Vis X.env.scope x := by first | exact Or.inl rfl | exact Or.inr (Or.inl rfl) | exact Or.inr (Or.inr rfl)) (hd : (x == ("__debug__" : Str)) = false := by decide) (hcd : (x == ("__classdict__" : Str)) = false := by decide)
    (hbase : attributeBase (.Name x np) "append" X.env (eval (.Name x np) X.env) = eval (.Name x np) X.env := by rfl)
    (hfew : ((backTo cpos (starEach [e] X.env)).all (fun x => !x.1) && (backToKw cpos (keywordEach [] X.env)).all (fun x => x.1.isSome)
      && decide ([e].length + ([] : List Keyword).length + (if ([] : List Keyword).isEmpty then 0 else 1) < 30)) = true := by rfl)
    (hline : (apos.endLine == cpos.line) = true := by rfl) (hs : starEach [e] X.env = (false, eval e X.env) :: starEach [] X.env := by rfl) (hplain : (backTo cpos (starEach [] X.env)).any (·.1) = false := by rfl)
    (hsw : swapsWith (.Call (.Attribute (.Name x np) "append" apos) [e] [] cpos) none pos.line X.env = pure false := by rfl) :
    SX ⟨X.K, cl⟩ X Wx B (.Expr (.Call (.Attribute (.Name x np) "append" apos) [e] [] cpos) pos) (sApp i f) :=
  PS.weak (ps_expr (pe_bm PySem.F.plainAttrs_list PySem.F.slot_list_append PySem.F.type_list_append mt_append (pe_var hN hv hd hcd) (pa_cons he pa_nil hs) hbase hfew hline hs hplain) hsw) fun D σ H ⟨F, ρ, m, τ, fr, p⟩ => by
    unfold sApp at p
    split at p
    · rename_i xs ho
      obtain ⟨a, h, e1, e2, e3, e4, vs, rfl, t⟩ := fr.s.own i _ ho
      refine ⟨.ref a, e1, .inl ⟨rfl, _, .of e4⟩, useE fr p fun w m' v F' ρ' H' fr' r q => ?_⟩
      obtain ⟨a', h', k1, k2, k3, k4, vs', rfl, t'⟩ := fr'.s.own i _ ho
      rw [e1] at k1
      cases k1
      split at q
      · rename_i hz
        exact ⟨a, vs', v, rfl, rfl, k4, by rw [t'.length]; exact hz, q σ F' ρ' _ (fr'.upd_own ho e1 ⟨_, rfl, t'.append (.cons r .nil)⟩)⟩
      · exact q.elim
    · exact p.elim

/-! ### slices -/
abbrev Fo := SS → M (Option Int)
def sO (c : Cn) (Wx : WX) (f : Fo) : TO := fun σ H Q => ∃ F ρ m τ, R c F ρ m H ∧ RS c F ρ τ σ H ∧ Post (fun o m' => ∀ F' ρ' H', R c F' ρ' m' H' → Go F ρ H F' ρ' H' → Q o H') (OkX c F ρ H fun k d H' => Wx k d σ H') (f τ m)
abbrev SO (c : Cn) (X : Cx) (Wx : WX) (e : Option Expr) (f : Fo) : Prop := PO X e (sO c Wx f)
theorem PO.weak {X : Cx} {e : Option Expr} {t t' : TO} (h : PO X e t') (w : ∀ σ H Q, t σ H Q → t' σ H Q) : PO X e t := ⟨fun pins s σ H Q I q => h.run pins s σ H Q I (w _ _ _ q)⟩
def oNone : Fo := fun _ m => .ok none m
def oSome (f : Fe) : Fo := fun τ => bnd (f τ) fun w m => match w with
  | .int i => .ok (some i) m
  | _ => .bad
theorem o_none : SO c X Wx none oNone := PO.weak po_none fun σ H Q ⟨F, ρ, m, τ, r, s, p⟩ => p F ρ H r .refl
theorem o_some {f : Fe} (h : SE c X Wx e f) : SO c X Wx (some e) (oSome f) := PO.weak (po_some h) fun σ H Q ⟨F, ρ, m, τ, r, s, p⟩ => by
  refine ⟨F, ρ, m, τ, r, s, ?_⟩
  unfold oSome bnd at p
  cases e : f τ m with
  | bad =>
    rw [e] at p
    exact p
  | exc x m' =>
    rw [e] at p
    exact p
  | ok w m1 =>
    rw [e] at p
    dsimp only at p
    cases w with
    | int i => exact fun v F1 ρ1 H1 r1 g1 q1 => ⟨i, q1, p F1 ρ1 H1 r1 g1⟩
    | _ => exact p.elim
def cutW (xs : List W) (lo hi : Option Int) : List W := (xs.drop (HT.sIx xs.length 0 lo)).take (HT.sIx xs.length xs.length hi - HT.sIx xs.length 0 lo)
def slW : W → Option Int → Option Int → Option W
  | .tup xs, lo, hi => some (.tup (cutW xs lo hi))
  | .lst xs, lo, hi => some (.lst (cutW xs lo hi))
  | .str x, lo, hi => if x.length ≤ sizeLine then some (.str (cutS x lo hi)) else none
  | _, _, _ => none
def eSl (f : Fe) (fl fh : Fo) : Fe := fun τ => bnd (f τ) fun w => bnd (fl τ) fun lo => bnd (fh τ) fun hi m => lift (slW w lo hi) m
def rSl (c : Cn) : V → Option Int → Option Int → Hp → VK → Prop := fun x lo hi H Q => ∃ F ρ m w0 w, R c F ρ m H ∧ RB c F ρ H w0 x ∧ slW w0 lo hi = some w ∧ OkE c F ρ H Q w m
theorem RWs.cut {F : Hp} {ρ : List Addr} {ws : List W} {vs : List V} (h : RWs c F ρ ws vs) (lo hi : Option Int) : RWs c F ρ (cutW ws lo hi) (cutV vs lo hi) := by
  unfold cutW cutV
  rw [h.length]
  exact (h.drop _).take _
theorem sl_ok : SlR X (rSl ⟨X.K, cl⟩) := by
  intro pins s σ H x v vl vu lo hi sl Q I rx hs pl pu h
  obtain ⟨F, ρ, m, w0, w, r, q, e, k⟩ := h
  unfold slW at e
  split at e
  · rename_i xs
    have q0 := q.scal fun o e => by cases o <;> cases e
    obtain ⟨a, vs, rfl, h1, t⟩ := q.tup r
    cases e
    refine sl_tupA pins s σ H _ v vl vu lo hi sl Q I rx hs pl pu ⟨a, vs, rfl, h1, fun hw => k _ F ρ H r .refl ?_, fun _ p n => k.newT r (t.cut lo hi) p n⟩
    have e : cutW xs lo hi = xs := by
      unfold cutW
      rw [t.length] at hw
      rw [hw.1, hw.2]
      simp
    rw [e]
    exact q0
  · obtain ⟨a, vs, rfl, h1, t⟩ := q.lst r
    cases e
    exact sl_list pins s σ H _ v vl vu _ _ sl Q I rx hs pl pu ⟨a, vs, rfl, .inl h1, fun p n => k.newL r (t.cut _ _) p n⟩
  · split at e
    · rename_i hz
      cases e
      exact sl_str pins s σ H x v vl vu _ _ sl Q I rx hs pl pu ⟨_, q.str, hz, k _ F ρ H r .refl rfl⟩
    · cases e
  · cases e
theorem s_slice {lo hi : Option Expr} {f : Fe} {fl fh : Fo} {p2 : Pos} (he : SR ⟨X.K, cl⟩ X Wx e f) (hl : SO ⟨X.K, cl⟩ X Wx lo fl) (hh : SO ⟨X.K, cl⟩ X Wx hi fh) : SE ⟨X.K, cl⟩ X Wx (.Subscript e (.Slice lo hi none p2) pos) (eSl f fl fh) := PE.weak (pe_slice sl_ok he hl hh) fun σ H Q ⟨F, ρ, m, τ, r, s, p⟩ => by
  refine ⟨F, ρ, m, τ, r, s, ?_⟩
  unfold eSl bnd at p
  cases e : f τ m with
  | bad =>
    rw [e] at p
    exact p
  | exc x m' =>
    rw [e] at p
    exact p
  | ok w m1 =>
    rw [e] at p
    dsimp only at p
    intro v F1 ρ1 H1 r1 g1 q1
    refine ⟨F1, ρ1, m1, τ, r1, s.go g1, ?_⟩
    cases e2 : fl τ m1 with
    | bad =>
      rw [e2] at p
      exact p
    | exc x m' =>
      rw [e2] at p
      exact OkX.back r1 g1 p
    | ok lo m2 =>
      rw [e2] at p
      intro F2 ρ2 H2 r2 g2
      refine ⟨F2, ρ2, m2, τ, r2, (s.go g1).go g2, ?_⟩
      dsimp only at p
      cases e3 : fh τ m2 with
      | bad =>
        rw [e3] at p
        exact p
      | exc x m' =>
        rw [e3] at p
        exact OkX.back r2 (g1.trans g2) p
      | ok hi m3 =>
        rw [e3] at p
        intro F3 ρ3 H3 r3 g3
        dsimp only at p
        cases e4 : slW w lo hi with
        | none =>
          rw [e4] at p
          exact p.elim
        | some w' =>
          rw [e4] at p
          exact ⟨F3, ρ3, m3, w, w', r3, (q1.go g2).go g3, e4, OkE.back (g1.trans (g2.trans g3)) p⟩
/-- xs[::-1] of a list: a new one -/
def nRev (f : Fe) : Fas := fun τ => bnd (f τ) fun w m => match w with
  | .lst xs => .ok xs.reverse m
  | _ => .bad
theorem n_rev {k : Nat} {f : Fe} {p1 p2 p3 : Pos} (he : SR ⟨X.K, cl⟩ X Wx e f) : SN ⟨X.K, cl⟩ X Wx (.Subscript e (.Slice none none (some (.UnaryOp .USub (.Constant (.int 1) k p1) p2)) p3) pos) (nRev f) := PE.weak (pe_revL he) fun σ H Q ⟨F, ρ, m, τ, r, s, p⟩ => by
  refine ⟨F, ρ, m, τ, r, s, ?_⟩
  unfold nRev bnd at p
  cases e : f τ m with
  | bad =>
    rw [e] at p
    exact p
  | exc x m' =>
    rw [e] at p
    exact p
  | ok w m1 =>
    rw [e] at p
    dsimp only at p
    intro v F1 ρ1 H1 r1 g1 q1
    cases w with
    | lst xs =>
      obtain ⟨a, vs, rfl, h1, t⟩ := q1.lst r1
      exact ⟨a, vs, rfl, .inl h1, fun p' n => OkN.fresh p r1 g1 t.reverse p' n⟩
    | _ => exact p.elim
end
end Sm

/-! S12: short forms; chains; several targets. -/
namespace Sm
open PySem PySem.Spec PyProof.Rows L2

section
variable {cl : Str → Addr} {X : Cx} {Wx : WX} {e e2 : Expr} {es : List Expr} {f : Fe} {g : Fas} {p pos : Pos} {c : Cn}
theorem s_len (ha : SR ⟨X.K, cl⟩ X Wx e f) (hm : X.mg "len" = none) (hg : Gl X "len" := by rfl) (he : starEach [e] X.env = (false, eval e X.env) :: starEach [] X.env := by rfl) (hpl : (backTo pos (starEach [] X.env)).any (·.1) = false := by rfl) :
    SE ⟨X.K, cl⟩ X Wx (.Call (.Name "len" p) [e] [] pos) (eBlt lenW (aCons f aNil)) := s_blt c_len (ar_cons ha ar_nil he) hm PySem.boot_len hg (by decide) (by decide) he hpl
theorem s_abs (ha : SR c X Wx e f) (hm : X.mg "abs" = none) (hg : Gl X "abs" := by rfl) (he : starEach [e] X.env = (false, eval e X.env) :: starEach [] X.env := by rfl) (hpl : (backTo pos (starEach [] X.env)).any (·.1) = false := by rfl) :
    SE c X Wx (.Call (.Name "abs" p) [e] [] pos) (eBlt absW (aCons f aNil)) := s_blt c_abs (ar_cons ha ar_nil he) hm (by decide +kernel) hg (by decide) (by decide) he hpl
theorem s_int' (ha : SR c X Wx e f) (hm : X.mg "int" = none) (hg : Gl X "int" := by rfl) (he : starEach [e] X.env = (false, eval e X.env) :: starEach [] X.env := by rfl) (hpl : (backTo pos (starEach [] X.env)).any (·.1) = false := by rfl) :
    SE c X Wx (.Call (.Name "int" p) [e] [] pos) (eBlt intW (aCons f aNil)) := s_blty c_int (ar_cons ha ar_nil he) hm (by decide +kernel) hg (by decide) (by decide) he hpl
theorem s_tuple' (ha : SR ⟨X.K, cl⟩ X Wx e f) (hm : X.mg "tuple" = none) (hg : Gl X "tuple" := by rfl) (he : starEach [e] X.env = (false, eval e X.env) :: starEach [] X.env := by rfl) (hpl : (backTo pos (starEach [] X.env)).any (·.1) = false := by rfl) :
    SE ⟨X.K, cl⟩ X Wx (.Call (.Name "tuple" p) [e] [] pos) (eBlt tupleW (aCons f aNil)) := s_blty c_tuple (ar_cons ha ar_nil he) hm (by decide +kernel) hg (by decide) (by decide) he hpl
theorem s_max2 {f2 : Fe} (hc : X.calm = true) (ha : SR c X Wx e f) (hb : SR c X Wx e2 f2) (hm : X.mg "max" = none) (hg : Gl X "max" := by rfl) (he : starEach [e, e2] X.env = (false, eval e X.env) :: starEach [e2] X.env := by rfl) (he2 : starEach [e2] X.env = (false, eval e2 X.env) :: starEach [] X.env := by rfl) (hpl : (backTo pos (starEach [e2] X.env)).any (·.1) = false := by rfl) :
    SE c X Wx (.Call (.Name "max" p) [e, e2] [] pos) (eBlt max2W (aCons f (aCons f2 aNil))) := s_blt (c_max2 hc) (ar_cons ha (ar_cons hb ar_nil he2) he) hm (by decide +kernel) hg (by decide) (by decide) he hpl
theorem s_min2 {f2 : Fe} (hc : X.calm = true) (ha : SR c X Wx e f) (hb : SR c X Wx e2 f2) (hm : X.mg "min" = none) (hg : Gl X "min" := by rfl) (he : starEach [e, e2] X.env = (false, eval e X.env) :: starEach [e2] X.env := by rfl) (he2 : starEach [e2] X.env = (false, eval e2 X.env) :: starEach [] X.env := by rfl) (hpl : (backTo pos (starEach [e2] X.env)).any (·.1) = false := by rfl) :
    SE c X Wx (.Call (.Name "min" p) [e, e2] [] pos) (eBlt min2W (aCons f (aCons f2 aNil))) := s_blt (c_min2 hc) (ar_cons ha (ar_cons hb ar_nil he2) he) hm (by decide +kernel) hg (by decide) (by decide) he hpl

/-! ### a op b op c -/
variable {a b d : Expr} {fa fb fd : Fe}
def eChain (g1 g2 : W → W → Sto → Option W) (fa fb fd : Fe) : Fe := fun τ => bnd (fa τ) fun x => bnd (fb τ) fun y m => match g1 x y m with
  | some (.bl k) => if k = true then bnd (fd τ) (fun z m2 => lift (g2 y z m2) m2) m else .ok (.bl false) m
  | _ => .bad
theorem w_chain {g1 g2 : W → W → Sto → Option W} {σ : L2.St} {H : Hp} {Q : VK} (h : sE c Wx (eChain g1 g2 fa fb fd) σ H Q) : tChain (rS c g1) (rS c g2) (sW c Wx fa) (sW c Wx fb) (sW c Wx fd) σ H Q := by
  obtain ⟨F, ρ, m, τ, r, s, p⟩ := h
  refine ⟨F, ρ, m, τ, r, s, ?_⟩
  unfold eChain bnd at p
  cases e : fa τ m with
  | bad =>
    rw [e] at p
    exact p
  | exc x m' =>
    rw [e] at p
    exact p
  | ok w1 m1 =>
    rw [e] at p
    intro v1 F1 ρ1 H1 r1 g1' q1
    refine ⟨F1, ρ1, m1, τ, r1, s.go g1', ?_⟩
    dsimp only at p
    cases e2 : fb τ m1 with
    | bad =>
      rw [e2] at p
      exact p
    | exc x m' =>
      rw [e2] at p
      exact OkX.back r1 g1' p
    | ok w2 m2 =>
      rw [e2] at p
      intro v2 F2 ρ2 H2 r2 g2' q2
      dsimp only at p
      cases e3 : g1 w1 w2 m2 with
      | none =>
        rw [e3] at p
        exact p.elim
      | some w =>
        rw [e3] at p
        refine ⟨F2, ρ2, m2, w1, w2, w, r2, q1.go g2', q2, e3, fun v F3 ρ3 H3 r3 g3 q3 => ?_⟩
        cases w with
        | bl k =>
          refine ⟨k, q3, ?_⟩
          dsimp only at p
          have gA := (g1'.trans g2').trans g3
          cases k with
          | false =>
            rw [if_neg Bool.false_ne_true] at p ⊢
            exact p _ F3 ρ3 H3 r3 gA rfl
          | true =>
            rw [if_pos rfl] at p ⊢
            refine ⟨F3, ρ3, m2, τ, r3, s.go gA, ?_⟩
            cases e4 : fd τ m2 with
            | bad =>
              rw [e4] at p
              exact p
            | exc x m' =>
              rw [e4] at p
              exact OkX.back r3 gA p
            | ok w3 m3 =>
              rw [e4] at p
              intro v4 F4 ρ4 H4 r4 g4 q4
              dsimp only at p
              cases e5 : g2 w2 w3 m3 with
              | none =>
                rw [e5] at p
                exact p.elim
              | some w' =>
                rw [e5] at p
                exact ⟨F4, ρ4, m3, w2, w3, w', r4, (q2.go g3).go g4, q4, e5, OkE.back (gA.trans g4) p⟩
        | _ => exact p.elim
theorem s_chain {op op' : CmpOp} {g1 g2 : W → W → Sto → Option W} (ho : OpR X (compareOp op) (rS c g1)) (ho' : OpR X (compareOp op') (rS c g2)) (ha : SR c X Wx a fa) (hb : SR c X Wx b fb) (hd : SR c X Wx d fd) (hm : lastMarks [op, op'] [b, d] = false := by with_unfolding_all rfl) :
    SE c X Wx (.Compare a [op, op'] [b, d] pos) (eChain g1 g2 fa fb fd) := PE.weak (pe_chain ho ho' ha hb hd hm) fun _ _ _ h => w_chain h
theorem t_chain {op op' : CmpOp} {g1 g2 : W → W → Sto → Option W} (ho : OpR X (compareOp op) (rS c g1)) (ho' : OpR X (compareOp op') (rS c g2)) (ha : SR c X Wx a fa) (hb : SR c X Wx b fb) (hd : SR c X Wx d fd) (hm : lastMarks [op, op'] [b, d] = false := by with_unfolding_all rfl) :
    ST c X Wx (.Compare a [op, op'] [b, d] pos) (tBl (eChain g1 g2 fa fb fd)) := by
  refine PT.weak (pt_chain ho ho' ha hb hd hm) fun σ H Q ⟨F, ρ, m, τ, r, s, p⟩ => ?_
  refine w_chain (Wx := Wx) (Q := fun x H' => ∃ k, x = V.bl k ∧ Q k H') ⟨F, ρ, m, τ, r, s, ?_⟩
  unfold tBl bnd at p
  cases e : eChain g1 g2 fa fb fd τ m with
  | bad =>
    rw [e] at p
    exact p
  | exc x m' =>
    rw [e] at p
    exact p
  | ok w m1 =>
    rw [e] at p
    dsimp only at p
    cases w with
    | bl k => exact fun v F1 ρ1 H1 r1 g1 q1 => ⟨k, q1, p F1 ρ1 H1 r1 g1⟩
    | _ => exact p.elim

/-! ### several targets -/
variable {B : Bs} {tg : Expr} {is : List Nat} {bd : Bd}
def sUnp (bd : Bd) (f : Fe) : Fs := fun τ m => exS (f τ m) τ fun w m' => match bd w τ with
  | some τ' => .ok (.nx τ') m'
  | none => .bad
theorem Fr.sta {F : Hp} {ρ : List Addr} {m : Sto} {τ τ' : SS} {σ σ' : L2.St} {H : Hp} (x : Fr c B F ρ m τ σ H) (s : RS c F ρ τ' σ' H) (k : Sta is τ τ' σ σ') : Fr c B F ρ m τ' σ' H :=
  ⟨x.r, s, x.g, fun j o a h1 h2 => by
    obtain ⟨h3, h4⟩ := k.1 j o h1
    rw [h4] at h2
    exact x.fresh j o a h3 h2, fun o a e h1 => by
    obtain ⟨h3, h4⟩ := k.1 0 o h1
    rw [h4]
    exact x.slf o a e h3⟩
theorem x_unp (he : SE c X Wx e f) (hg : SG c X tg is bd) (hs : swapsWithSole [tg] e pos.line X.env = pure false := by rfl) (hw : swappedStores [tg] e X.env = pure none := by rfl) (h1 : (assignEach [tg] X.env).map (·.2) = [assign tg X.env] := by rfl) : SX c X Wx B (.Assign [tg] e pos) (sUnp bd f) :=
  PS.weak (ps_asg he hg hs hw h1) fun D σ H ⟨F, ρ, m, τ, fr, p⟩ => useE fr p fun w m' v F' ρ' H' fr' r q => by
    cases e : bd w τ with
    | none =>
      rw [e] at q
      exact q.elim
    | some τ' =>
      rw [e] at q
      exact ⟨F', ρ', m', τ, w, τ', fr'.r, fr'.s, r, e, fun σ' s' k => q σ' F' ρ' H' (fr'.sta s' k)⟩
/-- a, b = x, y -/
def sPar (i j : Nat) (g : Fas) : Fs := fun τ m => exS (g τ m) τ fun ws m' => match ws with
  | [u, v] => .ok (.nx ((τ.set i (.val u)).set j (.val v))) m'
  | _ => .bad
theorem x_par {i j : Nat} {x y : Str} {px py pt pt2 : Pos} {kt k2} {es : List Expr} {a b : Expr} (hc : X.calm = true) (hN : X.N.Nodup) (hij : i ≠ j) (ha : SA c X Wx [a, b] g) (hi : X.N[i]? = some x := by rfl) (hj : X.N[j]? = some y := by rfl) (hx : X.env.scope.names.lookup x = some .local := by rfl) (hy : X.env.scope.names.lookup y = some .local := by rfl)
    (hw : swappedStores [.Tuple [.Name x px, .Name y py] kt pt] (.Tuple [a, b] k2 pt2) X.env = pure (some [x, y]) := by rfl) (hs : swapsWithSole [.Tuple [.Name x px, .Name y py] kt pt] (.Tuple [a, b] k2 pt2) pos.line X.env = pure false := by rfl) :
    SX c X Wx B (.Assign [.Tuple [.Name x px, .Name y py] kt pt] (.Tuple [a, b] k2 pt2) pos) (sPar i j g) :=
  PS.weak (ps_par hc hN hi hj hij hx hy ha hw hs) fun D σ H ⟨F, ρ, m, τ, fr, p⟩ => useA fr p fun ws m' vs F' ρ' H' fr' r q => by
    match ws, q, r with
    | [u, v], q, r =>
      obtain ⟨v1, r1, rfl, h1, t⟩ := r.inv
      obtain ⟨v2, r2, rfl, h2, t2⟩ := t.inv
      have e : r2 = [] := t2
      subst e
      exact ⟨v1, v2, rfl, q _ _ _ _ ((fr'.setv h1).setv h2)⟩
    | [], q, _ => exact q.elim
    | [_], q, _ => exact q.elim
    | _ :: _ :: _ :: _, q, _ => exact q.elim
end
end Sm

/-! S13: small further operators. -/
namespace Sm
open PySem PySem.Spec PyProof.Rows L2
def negW : W → Sto → Option W
  | .int i, _ => some (.int (-i))
  | _, _ => none
theorem u_neg {c : Cn} {X : Cx} : UnR X (unaryOp .USub) (rS1 c negW) := by
  intro pins s σ H x v Q I rx h
  obtain ⟨F, ρ, m, w1, w, r, q1, e, k⟩ := h
  unfold negW at e
  split at e
  · cases e
    exact un_neg pins s σ H x v Q I rx ⟨_, q1.int, k _ F ρ H r .refl rfl⟩
  · cases e
/-- behind f slot i is frozen -/
def sSeqF (i : Nat) (f : Fs) : Fs := fun τ m => match f τ m with
  | .ok (.nx τ') m' => (match τ'[i]? with
    | some (.own o) => if frzb o then .ok (.nx (τ'.set i (.val (toW o)))) m' else .bad
    | _ => .ok (.nx τ') m')
  | r => r
theorem x_seqF {c : Cn} {X : Cx} {Wx : WX} {B : Bs} {i : Nat} {st : Stmt} {f : Fs} (h : SX c X Wx B st f) : SX c X Wx B st (sSeqF i f) := PS.weak h fun D σ H ⟨F, ρ, m, τ, fr, p⟩ => by
  refine ⟨F, ρ, m, τ, fr, ?_⟩
  unfold sSeqF at p
  cases e : f τ m with
  | bad =>
    rw [e] at p
    exact p
  | exc _ _ =>
    rw [e] at p
    exact p
  | ok o m' =>
    rw [e] at p
    cases o with
    | nx τ' =>
      dsimp only at p
      intro σ' F' ρ' H' fr'
      split at p
      · rename_i o' e2
        split at p
        · rename_i hz
          obtain ⟨F2, fr2⟩ := fr'.freeze hz e2
          exact p σ' F2 ρ' H' fr2
        · exact p.elim
      · exact p σ' F' ρ' H' fr'
    | rt _ => exact p
    | bk _ => exact p
    | ct _ => exact p
    | ex _ _ => exact p
/-- the module's names that the program does not bind -/
def NoG (mg : Str → Option Value) (L : List Str) : Prop := ∀ x ∈ L, mg x = none
theorem NoG.at {mg : Str → Option Value} {L : List Str} (h : NoG mg L) (i : Nat) {x : Str} (e : L[i]? = some x := by rfl) : mg x = none := h x (List.mem_of_getElem? e)
end Sm

/-! S14: instances: attributes, __init__, making. -/
namespace Sm
open PySem PySem.Spec PyProof.Rows L2

def lookA (f : Str) : List Str → List W → Option W
  | n :: ns, w :: ws => if f = n then some w else lookA f ns ws
  | _, _ => none
def putA (f : Str) (w : W) : List Str → List W → List Str × List W
  | n :: ns, x :: ws => if n = f then (n :: ns, w :: ws) else (n :: (putA f w ns ws).1, x :: (putA f w ns ws).2)
  | _, _ => ([f], [w])
section
variable {c : Cn} {F : Hp} {ρ : List Addr}
theorem lookA_ok {f : Str} {w : W} : ∀ {gs : List (Str × V)} {ws : List W}, RWs c F ρ ws (gs.map (·.2)) → lookA f (gs.map (·.1)) ws = some w → ∃ v, gs.lookup f = some v ∧ RW c F ρ w v
  | [], ws, _, e => by
    cases ws <;> cases e
  | (n, x) :: gs, ws, h, e => by
    cases ws with
    | nil => cases e
    | cons u ws =>
      obtain ⟨v, r, e1, h1, t⟩ := h.inv
      have e2 : x = v ∧ gs.map (·.2) = r := by simpa using e1
      obtain ⟨rfl, rfl⟩ := e2
      have e' : (if f = n then some u else lookA f (gs.map (·.1)) ws) = some w := e
      by_cases hf : f = n
      · rw [if_pos hf] at e'
        cases e'
        exact ⟨x, by rw [lookup_put, if_pos hf], h1⟩
      · rw [if_neg hf] at e'
        obtain ⟨v, q1, q2⟩ := lookA_ok t e'
        exact ⟨v, by rw [lookup_put, if_neg hf]; exact q1, q2⟩
theorem putA_ok {f : Str} {w : W} {v : V} (hw : RW c F ρ w v) : ∀ {gs : List (Str × V)} {ws : List W}, RWs c F ρ ws (gs.map (·.2)) → (putF f v gs).map (·.1) = (putA f w (gs.map (·.1)) ws).1 ∧ RWs c F ρ (putA f w (gs.map (·.1)) ws).2 ((putF f v gs).map (·.2))
  | [], ws, h => by
    cases ws with
    | nil => exact ⟨rfl, .cons hw .nil⟩
    | cons u ws =>
      obtain ⟨_, _, e, _⟩ := h.inv
      cases e
  | (n, x) :: gs, ws, h => by
    cases ws with
    | nil =>
      have e : _ = [] := h
      cases e
    | cons u ws =>
      obtain ⟨y, r, e1, h1, t⟩ := h.inv
      have e2 : x = y ∧ gs.map (·.2) = r := by simpa using e1
      obtain ⟨rfl, rfl⟩ := e2
      show (List.map (·.1) (if n = f then (n, v) :: gs else (n, x) :: putF f v gs)) = (if n = f then (n :: gs.map (·.1), w :: ws) else (n :: (putA f w (gs.map (·.1)) ws).1, u :: (putA f w (gs.map (·.1)) ws).2)).1 ∧
        RWs c F ρ (if n = f then (n :: gs.map (·.1), w :: ws) else (n :: (putA f w (gs.map (·.1)) ws).1, u :: (putA f w (gs.map (·.1)) ws).2)).2 (List.map (·.2) (if n = f then (n, v) :: gs else (n, x) :: putF f v gs))
      by_cases hf : n = f
      · rw [if_pos hf, if_pos hf]
        exact ⟨rfl, .cons hw t⟩
      · rw [if_neg hf, if_neg hf]
        obtain ⟨q1, q2⟩ := putA_ok hw t
        exact ⟨by rw [List.map_cons, q1], .cons h1 q2⟩
end
theorem offN_look {f : Str} (hf : f ≠ ("nodes" : Str)) : ∀ gs : List (Str × V), (offN gs).lookup f = gs.lookup f
  | [] => rfl
  | (n, x) :: gs => by
    show ((if n = ("nodes" : Str) then (n, V.non) else (n, x)) :: offN gs).lookup f = _
    by_cases hn : n = ("nodes" : Str)
    · rw [if_pos hn, lookup_put, lookup_put, if_neg (fun e => hf (e.trans hn)), if_neg (fun e => hf (e.trans hn)), offN_look hf gs]
    · rw [if_neg hn, lookup_put, lookup_put, offN_look hf gs]
theorem offN_put {f : Str} {v : V} (hf : f ≠ ("nodes" : Str)) : ∀ gs : List (Str × V), offN (putF f v gs) = putF f v (offN gs)
  | [] => by
    show [if f = ("nodes" : Str) then (f, V.non) else (f, v)] = [(f, v)]
    rw [if_neg hf]
  | (n, x) :: gs => by
    show offN (if n = f then (n, v) :: gs else (n, x) :: putF f v gs) = putF f v ((if n = ("nodes" : Str) then (n, V.non) else (n, x)) :: offN gs)
    by_cases hn : n = ("nodes" : Str)
    · have ne : n ≠ f := fun e => hf (e.symm.trans hn)
      rw [if_neg ne, if_pos hn]
      show (if n = ("nodes" : Str) then (n, V.non) else (n, x)) :: offN (putF f v gs) = if n = f then (n, v) :: offN gs else (n, V.non) :: putF f v (offN gs)
      rw [if_pos hn, if_neg ne, offN_put hf gs]
    · rw [if_neg hn]
      show _ = if n = f then (n, v) :: offN gs else (n, x) :: putF f v (offN gs)
      by_cases he : n = f
      · rw [if_pos he, if_pos he]
        show (if n = ("nodes" : Str) then (n, V.non) else (n, v)) :: offN gs = _
        rw [if_neg hn]
      · rw [if_neg he, if_neg he]
        show (if n = ("nodes" : Str) then (n, V.non) else (n, x)) :: offN (putF f v gs) = _
        rw [if_neg hn, offN_put hf gs]
theorem offN_keys (gs : List (Str × V)) : (offN gs).map (·.1) = gs.map (·.1) := by
  induction gs with
  | nil => rfl
  | cons p gs ih =>
    show (if p.1 = ("nodes" : Str) then (p.1, V.non) else p).1 :: (offN gs).map (·.1) = _
    rw [ih]
    split <;> rfl

/-! ### what is told of the classes -/
/-- the classes by their names, with the attributes that their instances may have -/
abbrev Ats := List (Str × List Str)
def AtOk (K : PySem.W.Frag) (cl : Str → Addr) (At : Ats) : Prop := ∀ p ∈ At, Cls K (cl p.1) ∧ ∀ f ∈ p.2, NoAttr K (cl p.1) f
def hasA (At : Ats) (C f : Str) : Bool := At.any fun p => p.1 == C && p.2.contains f
theorem hasA_ok {K : PySem.W.Frag} {cl : Str → Addr} {At : Ats} {C f : Str} (h : AtOk K cl At) (e : hasA At C f = true) : Cls K (cl C) ∧ NoAttr K (cl C) f := by
  obtain ⟨p, h1, h2⟩ := List.any_eq_true.mp e
  obtain ⟨h3, h4⟩ := Bool.and_eq_true_iff.mp h2
  have h5 : p.1 = C := by simpa using h3
  have h6 : f ∈ p.2 := by simpa using h4
  subst h5
  exact ⟨(h p h1).1, (h p h1).2 f h6⟩

/-! ### the nodes of a tree -/
mutual
def nodesT : W → List W
  | .tree C ns vs kids => .tree C ns vs kids :: nodesL kids
  | _ => []
def nodesL : List W → List W
  | [] => []
  | k :: ks => nodesT k ++ nodesL ks
end
theorem NRs.all {c : Cn} {F : Hp} {ρ : List Addr} : ∀ {ks : List W} {r : List V}, NRs c F ρ ks r → RWs c F ρ (nodesL ks) r
  | [], r, h => by
    have e : r = [] := by unfold NRs at h; exact h
    rw [e]
    unfold nodesL
    exact .nil
  | .tree C ns vs kids :: ks, r, h => by
    unfold NRs at h
    obtain ⟨v, r1, r2, rfl, q, t1, t2⟩ := h
    unfold nodesL nodesT
    exact .cons q ((NRs.all t1).append (NRs.all t2))
  | .non :: _, _, h => by unfold NRs at h; exact h.elim
  | .bl _ :: _, _, h => by unfold NRs at h; exact h.elim
  | .int _ :: _, _, h => by unfold NRs at h; exact h.elim
  | .str _ :: _, _, h => by unfold NRs at h; exact h.elim
  | .tup _ :: _, _, h => by unfold NRs at h; exact h.elim
  | .lst _ :: _, _, h => by unfold NRs at h; exact h.elim
  | .dct _ _ :: _, _, h => by unfold NRs at h; exact h.elim
  | .obj _ _ _ :: _, _, h => by unfold NRs at h; exact h.elim
  | .ref _ :: _, _, h => by unfold NRs at h; exact h.elim
  | .ty _ :: _, _, h => by unfold NRs at h; exact h.elim
  | .cls _ :: _, _, h => by unfold NRs at h; exact h.elim

/-! ### e.f -/
def fldW (At : Ats) (f : Str) : W → Sto → Option W
  | .obj C ns vs, _ => if hasA At C f then lookA f ns vs else none
  | .tree C ns vs kids, _ => if hasA At C f then (if f = ("nodes" : Str) then some (.tup (.tree C ns vs kids :: nodesL kids)) else lookA f ns vs) else none
  | .ref i, m => match m[i]? with
    | some (.ins C ns vs) => if hasA At C f then lookA f ns vs else none
    | _ => none
  | _, _ => none
theorem fldW_ok {c : Cn} {F : Hp} {ρ : List Addr} {m : Sto} {H : Hp} {At : Ats} {f : Str} {w w1 : W} {x : V} (hA : AtOk c.K c.cl At) (r : R c F ρ m H) (q : RB c F ρ H w1 x) (e : fldW At f w1 m = some w) (own : ∀ a h o, x = V.ref a → H a = some h → F a = none → OR c F ρ a o h → w1 = toW o → f ≠ ("nodes" : Str)) :
    ∃ a C dx gs v, x = V.ref a ∧ H a = some (.ins C dx gs) ∧ Cls c.K C ∧ NoAttr c.K C f ∧ gs.lookup f = some v ∧ RW c F ρ w v := by
  have ins : ∀ {C : Str} {a dx : Addr} {gs : List (Str × V)} {vs : List W}, x = V.ref a → H a = some (.ins (c.cl C) dx gs) → RWs c F ρ vs (gs.map (·.2)) → (if hasA At C f then lookA f (gs.map (·.1)) vs else none) = some w →
      ∃ a C dx gs v, x = V.ref a ∧ H a = some (.ins C dx gs) ∧ Cls c.K C ∧ NoAttr c.K C f ∧ gs.lookup f = some v ∧ RW c F ρ w v := fun {C a dx gs vs} ex h1 h2 h3 => by
    split at h3
    · rename_i hh
      obtain ⟨k1, k2⟩ := hasA_ok hA hh
      obtain ⟨v, l1, l2⟩ := lookA_ok h2 h3
      exact ⟨a, _, dx, gs, v, ex, h1, k1, k2, l1, l2⟩
    · cases h3
  have tre : ∀ {C : Str} {a dx t : Addr} {gs : List (Str × V)} {rr : List V} {vs kids : List W}, x = V.ref a → H a = some (.ins (c.cl C) dx gs) → RWs c F ρ vs ((offN gs).map (·.2)) → gs.lookup ("nodes" : Str) = some (.ref t) → (f = ("nodes" : Str) → RW c F ρ (.tup (.tree C (gs.map (·.1)) vs kids :: nodesL kids)) (.ref t)) →
      (if hasA At C f then (if f = ("nodes" : Str) then some (.tup (.tree C (gs.map (·.1)) vs kids :: nodesL kids)) else lookA f (gs.map (·.1)) vs) else none) = some w →
      ∃ a C dx gs v, x = V.ref a ∧ H a = some (.ins C dx gs) ∧ Cls c.K C ∧ NoAttr c.K C f ∧ gs.lookup f = some v ∧ RW c F ρ w v := fun {C a dx t gs rr vs kids} ex h1 h2 hl ht h3 => by
    split at h3
    · rename_i hh
      obtain ⟨k1, k2⟩ := hasA_ok hA hh
      split at h3
      · rename_i hf
        cases h3
        exact ⟨a, _, dx, gs, _, ex, h1, k1, k2, by rw [hf]; exact hl, ht hf⟩
      · rename_i hf
        rw [← offN_keys gs] at h3
        obtain ⟨v, l1, l2⟩ := lookA_ok h2 h3
        exact ⟨a, _, dx, gs, v, ex, h1, k1, k2, by rw [← offN_look hf gs]; exact l1, l2⟩
    · cases h3
  rcases q with q | ⟨a, h, o, rfl, rfl, h3, h4, h5, h6⟩
  · unfold fldW at e
    split at e
    · unfold RW at q
      obtain ⟨a, dx, gs, rfl, h1, rfl, h2⟩ := q
      exact ins rfl (r.sub _ _ h1) h2 e
    · have q0 := q
      unfold RW at q
      obtain ⟨a, dx, gs, t, rr, rfl, h1, hn, h2, hl, hs, hk⟩ := q
      rw [offN_keys] at hn
      subst hn
      refine tre (rr := rr) rfl (r.sub _ _ h1) h2 hl (fun _ => ?_) e
      unfold RW
      exact ⟨t, _, rfl, hs, .cons q0 (NRs.all hk)⟩
    · rename_i i
      obtain ⟨a, rfl, h1⟩ : ∃ a, x = .ref a ∧ ρ[i]? = some a := by unfold RW at q; exact q
      split at e
      · rename_i C ns vs hm
        obtain ⟨h, k1, dx, gs, rfl, rfl, h2⟩ := r.at_ i a _ h1 hm
        exact ins rfl k1 h2 e
      · cases e
    · cases e
  · cases o with
    | ins C ns vs =>
      obtain ⟨dx, gs, rfl, rfl, h2⟩ := h6
      exact ins rfl h3 h2 e
    | tin C ns vs kids =>
      have nf := own a h _ rfl h3 h5 h6 rfl
      obtain ⟨dx, gs, t, rr, rfl, hn, h2, hl, hs, hk⟩ := h6
      rw [offN_keys] at hn
      subst hn
      exact tre (rr := rr) rfl h3 h2 hl (fun hf => absurd hf nf) e
    | lst xs => cases e
    | dK _ _ => cases e
    | dT _ _ => cases e

theorem RW_frz {c : Cn} {F : Hp} {ρ : List Addr} {o : MO} {a : Addr} (h : RW c F ρ (toW o) (.ref a)) : F a ≠ none := by
  intro n
  cases o with
  | lst xs =>
    unfold toW RW at h
    obtain ⟨b, vs, e, h1, _⟩ := h
    cases e
    rcases h1 with h1 | ⟨_, h1⟩ <;> rw [n] at h1 <;> cases h1
  | dK _ _ =>
    unfold toW RW at h
    obtain ⟨b, vs, e, ⟨_, h1, _⟩ | ⟨_, h1, _⟩⟩ := h <;> cases e <;> rw [n] at h1 <;> cases h1
  | dT _ _ =>
    unfold toW RW at h
    obtain ⟨b, vs, e, ⟨_, h1, _⟩ | ⟨_, h1, _⟩⟩ := h <;> cases e <;> rw [n] at h1 <;> cases h1
  | ins _ _ _ =>
    unfold toW RW at h
    obtain ⟨b, dx, gs, e, h1, _⟩ := h
    cases e
    rw [n] at h1
    cases h1
  | tin _ _ _ _ =>
    unfold toW RW at h
    obtain ⟨b, dx, gs, t, rr, e, h1, _⟩ := h
    cases e
    rw [n] at h1
    cases h1
section
variable {c : Cn} {X : Cx} {Wx : WX} {e : Expr} {fa : Fe} {pos : Pos} {g : W → Sto → Option W} {σ : L2.St} {H : Hp} {Q Q2 : VK}
theorem w_op1R (h : sE c Wx (op1 g fa) σ H Q) (hk : ∀ F ρ m H1 w1 w x, R c F ρ m H1 → RB c F ρ H1 w1 x → g w1 m = some w → OkE c F ρ H1 Q w m → Q2 x H1) : sW c Wx fa σ H Q2 := by
  obtain ⟨F, ρ, m, τ, r, s, p⟩ := h
  refine ⟨F, ρ, m, τ, r, s, ?_⟩
  unfold op1 bnd at p
  cases e : fa τ m with
  | bad =>
    rw [e] at p
    exact p
  | exc x m' =>
    rw [e] at p
    exact p
  | ok w1 m1 =>
    rw [e] at p
    intro v1 F1 ρ1 H1 r1 g1 q1
    dsimp only at p
    cases e3 : g w1 m1 with
    | none =>
      rw [e3] at p
      exact p.elim
    | some w =>
      rw [e3] at p
      exact hk F1 ρ1 m1 H1 w1 w v1 r1 q1 e3 (OkE.back g1 p)
theorem w_op1E (h : sE c Wx (op1 g fa) σ H Q) (hk : ∀ F ρ m H1 w1 w x, R c F ρ m H1 → RW c F ρ w1 x → g w1 m = some w → OkE c F ρ H1 Q w m → Q2 x H1) : sE c Wx fa σ H Q2 := by
  obtain ⟨F, ρ, m, τ, r, s, p⟩ := h
  refine ⟨F, ρ, m, τ, r, s, ?_⟩
  unfold op1 bnd at p
  cases e : fa τ m with
  | bad =>
    rw [e] at p
    exact p
  | exc x m' =>
    rw [e] at p
    exact p
  | ok w1 m1 =>
    rw [e] at p
    intro v1 F1 ρ1 H1 r1 g1 q1
    dsimp only at p
    cases e3 : g w1 m1 with
    | none =>
      rw [e3] at p
      exact p.elim
    | some w =>
      rw [e3] at p
      exact hk F1 ρ1 m1 H1 w1 w v1 r1 q1 e3 (OkE.back g1 p)
/-- e.f -/
theorem s_fld {At : Ats} {f : Str} (hA : AtOk c.K c.cl At) (hK : c.K = X.K) (he : SR c X Wx e fa) (hf : f ≠ ("nodes" : Str) := by decide) (hb : attributeBase e f X.env (eval e X.env) = eval e X.env := by rfl) : SE c X Wx (.Attribute e f pos) (op1 (fldW At f) fa) :=
  PE.weak (pe_fld he hb) fun σ H Q h => w_op1R h fun F ρ m H1 w1 w x r q e k => by
    obtain ⟨a, C, dx, gs, v, ex, h1, k1, k2, l, rw'⟩ := fldW_ok hA r q e fun _ _ _ _ _ _ _ _ => hf
    exact ⟨a, C, dx, gs, v, ex, h1, hK ▸ k1, hK ▸ k2, l, k v F ρ H1 r .refl rw'⟩
theorem s_fldE {At : Ats} {f : Str} (hA : AtOk c.K c.cl At) (hK : c.K = X.K) (he : SE c X Wx e fa) (hb : attributeBase e f X.env (eval e X.env) = eval e X.env := by rfl) : SE c X Wx (.Attribute e f pos) (op1 (fldW At f) fa) :=
  PE.weak (pe_fld he hb) fun σ H Q h => w_op1E h fun F ρ m H1 w1 w x r q e k => by
    obtain ⟨a, C, dx, gs, v, ex, h1, k1, k2, l, rw'⟩ := fldW_ok hA r (.inl q) e fun a _ o ex _ hn _ ew => absurd hn (RW_frz (by rw [← ew, ← ex]; exact q))
    exact ⟨a, C, dx, gs, v, ex, h1, hK ▸ k1, hK ▸ k2, l, k v F ρ H1 r .refl rw'⟩
end
end Sm

/-! S15: self.f = e; an __init__ by its body; an instance made. -/
namespace Sm
open PySem PySem.Spec PyProof.Rows L2

def putO (At : Ats) (f : Str) (w : W) : MO → Option MO
  | .ins C ns vs => if hasA At C f && ns.length < 1000 then some (.ins C (putA f w ns vs).1 (putA f w ns vs).2) else none
  | .tin C ns vs kids => if hasA At C f && ns.length < 1000 && !(f == ("nodes" : Str)) then some (.tin C (putA f w ns vs).1 (putA f w ns vs).2 kids) else none
  | _ => none
theorem putO_ok {c : Cn} {F : Hp} {ρ : List Addr} {At : Ats} {f : Str} {w : W} {v : V} {o o' : MO} {a : Addr} {h : HO} (hA : AtOk c.K c.cl At) (q : OR c F ρ a o h) (hw : RW c F ρ w v) (e : putO At f w o = some o') :
    ∃ C dx gs, h = .ins C dx gs ∧ Cls c.K C ∧ NoAttr c.K C f ∧ gs.length < 1000 ∧ OR c F ρ a o' (.ins C dx (putF f v gs)) := by
  unfold putO at e
  split at e
  · split at e
    · rename_i hh
      obtain ⟨h1, h2⟩ := Bool.and_eq_true_iff.mp hh
      obtain ⟨k1, k2⟩ := hasA_ok hA h1
      cases e
      obtain ⟨dx, gs, rfl, rfl, t⟩ := q
      obtain ⟨p1, p2⟩ := putA_ok (f := f) hw t
      exact ⟨_, dx, gs, rfl, k1, k2, by simpa using h2, dx, _, rfl, p1, p2⟩
    · cases e
  · split at e
    · rename_i hh
      obtain ⟨h0, h3⟩ := Bool.and_eq_true_iff.mp hh
      obtain ⟨h1, h2⟩ := Bool.and_eq_true_iff.mp h0
      have hf : f ≠ ("nodes" : Str) := by simpa using h3
      obtain ⟨k1, k2⟩ := hasA_ok hA h1
      cases e
      obtain ⟨dx, gs, t, rr, rfl, hn, z, l, y, k⟩ := q
      obtain ⟨p1, p2⟩ := putA_ok (f := f) hw z
      rw [hn] at p1 p2
      rw [offN_keys] at hn
      refine ⟨_, dx, gs, rfl, k1, k2, ?_, dx, _, t, rr, rfl, by rw [offN_put hf]; exact p1, by rw [offN_put hf]; exact p2, by rw [lookup_putF, if_neg (Ne.symm hf)]; exact l, y, k⟩
      have : gs.length = (gs.map (·.1)).length := by simp
      rw [this, hn]
      simpa using h2
    · cases e
  · cases e
def sFldS (At : Ats) (i : Nat) (f : Str) (g : Fe) : Fs := fun τ m => exS (g τ m) τ fun w m' => match τ[i]? with
  | some (.own o) => (match putO At f w o with
    | some o' => .ok (.nx (τ.set i (.own o'))) m'
    | none => .bad)
  | _ => .bad
section
variable {c : Cn} {X : Cx} {Wx : WX} {B : Bs} {e : Expr} {g : Fe} {pos : Pos}
theorem x_fld {At : Ats} (i : Nat) {f : Str} {x : Str} {p1 p2 : Pos} (hA : AtOk c.K c.cl At) (hK : c.K = X.K) (he : SE c X Wx e g) (hN : X.N[i]? = some x := by rfl) (hv : Vis X.env.scope x := by first | exact Or.inl rfl | exact Or.inr (Or.inl rfl) | exact Or.inr (Or.inr rfl)) (hd : (x == ("__debug__" : Str)) = false := by decide)
    (hcd : (x == ("__classdict__" : Str)) = false := by decide) (hs : swapsWith e (some (.Attribute (.Name x p1) f p2)) pos.line X.env = pure false := by rfl) : SX c X Wx B (.Assign [.Attribute (.Name x p1) f p2] e pos) (sFldS At i f g) :=
  PS.weak (ps_fld (pe_var hN hv hd hcd) he hs) fun D σ H ⟨F, ρ, m, τ, fr, p⟩ => useE fr p fun w m' v F' ρ' H' fr' q k => by
    split at k
    · rename_i o eo
      split at k
      · rename_i o' ep
        obtain ⟨a, h, e1, e2, e3, e4, e5⟩ := fr'.s.own i o eo
        obtain ⟨C, dx, gs, rfl, k1, k2, k3, k4⟩ := putO_ok hA e5 q ep
        exact ⟨.ref a, e1, a, C, dx, gs, rfl, e4, hK ▸ k1, hK ▸ k2, k3, k _ _ _ _ (fr'.upd_own eo e1 k4)⟩
      · exact k.elim
    · exact k.elim
end

/-! ### an __init__ -/
def del1 (H : Hp) (a : Addr) : Hp := fun b => if b = a then none else H b
/-- self's state ahead of it and behind it -/
def spI (c : Cn) (n : Nat) (γ : MO → List W → M MO) : Sp := fun vs H Q E => vs.length = n ∧ ∃ a vs' F ρ m ws o h, vs = .ref a :: vs' ∧ R c F ρ m H ∧ RWs c F ρ ws vs' ∧ F a = none ∧ a ∉ ρ ∧ H a = some h ∧ OR c F ρ a o h ∧
  Post (fun o' m' => ∀ F' ρ' H' h', R c F' ρ' m' H' → Go F ρ (del1 H a) F' ρ' H' → F' a = none → a ∉ ρ' → H' a = some h' → OR c F' ρ' a o' h' → Q .non H')
    (fun x m' => ∀ cls d F' ρ' H', R c F' ρ' m' H' → Go F ρ (del1 H a) F' ρ' H' → XR c (del1 H a) F' ρ' H' x cls d → E cls d H') (γ o ws m)
def runI (n : Nat) (g : Fs) (o : MO) (ws : List W) : M MO := fun m => match g (.own o :: (ws.map .val ++ List.replicate (n - (ws.length + 1)) .un)) m with
  | .ok (.nx τ) m' => (match ((τ : SS)[(0 : Nat)]? : Option Sl) with
    | some (.own o') => .ok o' m'
    | _ => .bad)
  | .ok (.ex x _) m' => .exc x m'
  | _ => .bad
theorem go_del {F : Hp} {ρ : List Addr} {H : Hp} {a : Addr} : Go F ρ (del1 H a) F ρ H := ⟨Same.refl _, .refl _, fun b o e _ => by
  unfold del1 at e
  split at e
  · cases e
  · exact e, fun b o e n => ⟨n, id⟩⟩
section
variable {c : Cn} {F : Hp} {ρ : List Addr} {m : Sto} {ws : List W} {vs : List V} {H : Hp} {N : List Str} {a : Addr} {h : HO} {o : MO}
theorem start_FrI (r : R c F ρ m H) (q : RWs c F ρ ws vs) (h1 : F a = none) (h2 : a ∉ ρ) (h3 : H a = some h) (h4 : OR c F ρ a o h) :
    Fr c ⟨F, ρ, del1 H a, some a⟩ F ρ m (.own o :: (ws.map .val ++ List.replicate (N.length - (ws.length + 1)) .un)) (L2.start N (.ref a :: vs)) H := by
  have s0 : RS c F ρ (ws.map .val ++ List.replicate (N.length - (ws.length + 1)) .un) (vs.map some ++ List.replicate (N.length - (vs.length + 1)) none) H := by
    have := start_RS (N := List.replicate (N.length - 1) Str.empty) (H := H) q
    unfold L2.start at this
    rw [List.length_replicate] at this
    rwa [show N.length - (ws.length + 1) = N.length - 1 - ws.length by omega, show N.length - (vs.length + 1) = N.length - 1 - vs.length by omega]
  have no : ∀ (i : Nat) (o : MO), (ws.map Sl.val ++ List.replicate (N.length - (ws.length + 1)) Sl.un)[i]? ≠ some (.own o) := fun i o e => by
    by_cases hi : i < ws.length
    · rw [List.getElem?_append_left (by simpa using hi), List.getElem?_map] at e
      cases q : ws[i]? with
      | none =>
        rw [q] at e
        cases e
      | some w =>
        rw [q] at e
        cases e
    · rw [List.getElem?_append_right (by simpa using hi), List.getElem?_replicate] at e
      split at e <;> cases e
  have es : L2.start N (.ref a :: vs) = some (.ref a) :: (vs.map some ++ List.replicate (N.length - (vs.length + 1)) none) := rfl
  rw [es]
  refine ⟨r, ⟨by simpa using s0.len, fun i w e => ?_, fun i oo e => ?_, fun i j o1 o2 b n e1 e2 => ?_⟩, go_del, fun i oo b e1 e2 => ?_, fun oo b e1 e2 => ?_⟩
  · cases i with
    | zero => cases e
    | succ i => exact s0.val i w e
  · cases i with
    | zero =>
      cases e
      exact ⟨a, h, rfl, h1, h2, h3, h4⟩
    | succ i => exact absurd e (no i oo)
  · cases i with
    | zero =>
      cases j with
      | zero => exact absurd rfl n
      | succ j => exact absurd e2 (no j o2)
    | succ i => exact absurd e1 (no i o1)
  · cases i with
    | zero =>
      cases e2
      show del1 H a a = none
      unfold del1
      rw [if_pos rfl]
    | succ i => exact absurd e1 (no i oo)
  · cases e1
    rfl
end
theorem okI {c : Cn} {Wx : WX} {F : Hp} {ρ : List Addr} {H : Hp} {a : Addr} {n : Nat} {g : Fs} {o : MO} {ws : List W} {m : Sto} {Q : VK} {E : XK} (hW : Wx = fun cls d _ H => E cls d H)
    (p : Post (fun o' m' => ∀ F' ρ' H' h', R c F' ρ' m' H' → Go F ρ (del1 H a) F' ρ' H' → F' a = none → a ∉ ρ' → H' a = some h' → OR c F' ρ' a o' h' → Q .non H')
      (fun x m' => ∀ cls d F' ρ' H', R c F' ρ' m' H' → Go F ρ (del1 H a) F' ρ' H' → XR c (del1 H a) F' ρ' H' x cls d → E cls d H') (runI n g o ws m)) :
    Post (okS c Wx ⟨F, ρ, del1 H a, some a⟩ { nx := fun _ H' => Q .non H', rt := Q }) (fun _ _ => False) (g (.own o :: (ws.map .val ++ List.replicate (n - (ws.length + 1)) .un)) m) := by
  subst hW
  unfold runI at p
  cases e : g (.own o :: (ws.map .val ++ List.replicate (n - (ws.length + 1)) .un)) m with
  | bad =>
    rw [e] at p
    exact p
  | exc x m' =>
    rw [e] at p
    exact p.elim
  | ok t m' =>
    rw [e] at p
    cases t with
    | nx τ =>
      dsimp only at p
      intro σ' F' ρ' H' fr
      split at p
      · rename_i o' e0
        obtain ⟨b, h', e1, e2, e3, e4, e5⟩ := fr.s.own 0 o' e0
        have e6 := fr.slf o' a rfl e0
        rw [e6] at e1
        cases e1
        exact p F' ρ' H' h' fr.r fr.g e2 e3 e4 e5
      · exact p.elim
    | rt v => exact p.elim
    | ex z τ => exact fun k d σ' F' ρ' H' fr q => p k d F' ρ' H' fr.r fr.g q
    | bk τ => exact p.elim
    | ct τ => exact p.elim
section
variable {P : Program} {w : World} {K : PySem.W.Frag} {mg : Str → Option Value} {base : Heap} {cl : Str → Addr}
theorem init_ok {x qual : Str} {params : Arguments} {body : List Stmt} {scope : Scope} {dvs : List V} {kws : List (Str × V)} {f : Addr} {fd : FuncData} {N ps : List Str} {k : Nat} {g : Fs} (Fd : FunD K x qual params body scope dvs kws f fd) (S : FnScope N ps scope)
    (hb : ∀ (cdv : Value) (A : Around) (outer : List Env) (s : Shared) (H : Hp) (E : XK) (B : Bs), Ctx (cxOf (CX P w) P w K mg base N qual scope f cdv A outer s H E) (fun cls d _ H => E cls d H) k → SXs ⟨K, cl⟩ (cxOf (CX P w) P w K mg base N qual scope f cdv A outer s H E) (fun cls d _ H => E cls d H) B body g) :
    FnOk P w K mg base (CX P w) (k + 1) f fd ps (spI ⟨K, cl⟩ ps.length (runI N.length g)) := by
  obtain ⟨⟨oc, od, dV, kV, doc, pm, an, cdv, ct, osl, rfl, lk, hcd, _, _⟩, _⟩ := Fd
  refine fn_of lk hcd S (fun vs H Q E h => h.1) fun A outer s H vs Q E hr hsp => ?_
  obtain ⟨hl, a, vs', F, ρ, m, ws, o, h, rfl, r, q, h1, h2, h3, h4, p⟩ := hsp
  have tk : Takes (cxOf (CX P w) P w K mg base N qual scope f cdv A outer s H E) (fun cls d _ H => E cls d H) := takes_of rfl rfl rfl rfl
  exact ⟨sS ⟨K, cl⟩ (fun cls d _ H => E cls d H) ⟨F, ρ, del1 H a, some a⟩ g, hb cdv A outer s H E _ ⟨rfl, tk, passes_of rfl, hr, S.nd⟩, F, ρ, m, _, start_FrI r q h1 h2 h3 h4, okI rfl p⟩
end
end Sm

/-! S16: C(..); calls of methods. -/
namespace Sm
open PySem PySem.Spec PyProof.Rows L2

section
variable {c : Cn} {F : Hp} {ρ : List Addr} {m : Sto} {H : Hp} {x : Addr} {h : HO} {o : MO}
theorem R.frzO (r : R c F ρ m H) (h1 : F x = none) (h2 : x ∉ ρ) (h3 : H x = some h) (q : OR c F ρ x o h) (hz : frzb o = true) : R c (upd F x h) ρ m H ∧ RW c (upd F x h) ρ (toW o) (.ref x) := by
  have fs : Same F (upd F x h) := upd_new h1
  refine ⟨⟨fun b z e => ?_, r.len, r.nd, fun b hb => ?_, fun j b oo g1 g2 => ?_⟩, ?_⟩
  · by_cases hb : b = x
    · subst hb
      rw [upd_same] at e
      cases e
      exact h3
    · rw [upd_ne hb] at e
      exact r.sub b z e
  · rw [upd_ne (fun z => h2 (by rw [← z]; exact hb))]
    exact r.off b hb
  · obtain ⟨ho, k1, k2⟩ := r.at_ j b oo g1 g2
    exact ⟨ho, k1, k2.mono fs (.refl _)⟩
  · cases o with
    | lst xs =>
      obtain ⟨vs, rfl, t⟩ := q
      unfold toW RW
      exact ⟨x, vs, rfl, .inl upd_same, t.mono fs (.refl _)⟩
    | ins C ns vs =>
      obtain ⟨dx, gs, rfl, n, t⟩ := q
      unfold toW RW
      exact ⟨x, dx, gs, rfl, upd_same, n, t.mono fs (.refl _)⟩
    | tin C ns vs kids =>
      obtain ⟨dx, gs, t, rr, rfl, n, z, l, y, k⟩ := q
      unfold toW RW
      exact ⟨x, dx, gs, t, rr, rfl, upd_same, n, z.mono fs (.refl _), l, sqT_mono fs y, NRs.mono fs (.refl _) _ _ k⟩
    | dK _ _ => cases hz
    | dT _ _ => cases hz
theorem Go.frzO {F' : Hp} {ρ' : List Addr} {H' : Hp} (g : Go F ρ H F' ρ' H') (hx : H x = none) (h1 : F' x = none) : Go F ρ H (upd F' x h) ρ' H' := ⟨g.ff.trans (upd_new h1), g.pre, g.keep, fun b z e n => ⟨(g.off b z e n).1, fun w => by
  rw [upd_ne (fun q => by rw [q, hx] at e; cases e)]
  exact (g.off b z e n).2 w⟩⟩
end
/-- the class C's __init__ is worth γ; n parameters with self, the last ones by default dws -/
structure CalI (P : Program) (w : World) (K : PySem.W.Frag) (mg : Str → Option Value) (base : Heap) (cl : Str → Addr) (k : Nat) (C : Str) (n : Nat) (dws : List W) (γ : MO → List W → M MO) : Prop where
  ex : ∃ f fd ps ds dvs, FnOk P w K mg base (CX P w) k f fd ps (spI ⟨K, cl⟩ ps.length γ) ∧ ps.length = n ∧ mg C = some (.ref (cl C)) ∧ Mk K (cl C) f ∧ Binds K fd ps ds ∧ Vals dvs ds ∧ ∀ F ρ, RWs ⟨K, cl⟩ F ρ dws dvs
def newM (C : Str) (γ : MO → List W → M MO) (ws : List W) : M W := bnd (γ (.ins C [] []) ws) fun o m => if frzb o = true then .ok (toW o) m else .bad
def eNew (C : Str) (n : Nat) (γ : MO → List W → M MO) (dws : List W) (g : Fas) : Fe := fun τ => bnd (g τ) fun ws m => if (ws ++ dws).length + 1 = n then newM C γ (ws ++ dws) m else .bad

section
variable {X : Cx} {Wx : WX} {cl : Str → Addr} {k : Nat} {C : Str} {n : Nat} {dws : List W} {γ : MO → List W → M MO} {e : Expr} {es : List Expr} {g : Fas} {p pos : Pos}
theorem run_makeS {k : Nat} {C f : Addr} {fd : FuncData} {ps : List Str} {sp : Sp} {ds : List Value} {dvs : List V} {pins : List (Addr × Obj)} {σ : L2.St} {H : Hp} {s : Shared} {Q : VK} {us : List Value} {vs : List V} (M : Mk X.K C f) (F : FnOk X.prog X.w X.K X.mg X.base (CX X.prog X.w) k f fd ps sp) (hr : Room (k + 1) X.A) (hb : Binds X.K fd ps ds) (hd : Vals dvs ds)
    (tk : Takes X Wx) (I : Inv X pins σ H s) (r : Vals vs us)
    (h : ∀ x dx, H x = none → H dx = none → dx ≠ x → sp (.ref x :: (vs ++ dvs)) (upd (upd H dx (.own x)) x (.ins C dx [])) (fun v H2 => v = .non ∧ Q (.ref x) H2) fun c d H' => Wx c d σ H') :
    wpAny (model X.prog X.w) X.A (call (.ref C) us) (EP X pins σ Q) X.xe s := by
  have hq := h (s.heap.objs.size + 1) s.heap.objs.size (I.hok.fresh (Nat.le_succ _)) (I.hok.fresh (Nat.le_refl _)) (Nat.ne_of_lt (Nat.lt_succ_self _))
  have I2 := Inv.made (C := C) I
  have r2 : Vals (V.ref (s.heap.objs.size + 1) :: (vs ++ dvs)) (Value.ref (s.heap.objs.size + 1) :: (us ++ ds)) := .cons rfl (r.append hd)
  have hl : (Value.ref (s.heap.objs.size + 1) :: us ++ ds).length = ps.length := by
    have e := r2.length
    rw [F.len _ _ _ _ hq] at e
    exact e.symm
  refine wpAny_call (make_map (f := f) I.kIn M.makes M.init (beq_iff_eq.mp M.fn) (codeAny_mono (F.run _ X.stack _ _ ⟨Value.ref (s.heap.objs.size + 1) :: us, []⟩ (Value.ref (s.heap.objs.size + 1) :: (us ++ ds)) _ _ _ (hr.make C us [])
    (I2.env0.make C us []) (hb _ (Value.ref (s.heap.objs.size + 1) :: us) I2.kIn hl) r2 hq) fun r s' hq' => ?_))
  cases r with
  | error e => exact tk e s' (XE.of_call I2 (fun _ _ _ z => z) hq')
  | ok fl =>
    cases fl with
    | ret u =>
      obtain ⟨v, H', I3, rv, ev, q3⟩ := I2.after hq'
      subst ev
      exact ⟨rv, ⟨V.ref (s.heap.objs.size + 1), H', I3, rfl, q3⟩⟩
    | next => exact False.elim hq'
    | brk => exact False.elim hq'
    | cont => exact False.elim hq'
theorem w_new {K : PySem.W.Frag} {σ : L2.St} {H : Hp} {Q : VK} {dvs : List V} (hd : ∀ F ρ, RWs ⟨K, cl⟩ F ρ dws dvs) (h : sE ⟨K, cl⟩ Wx (eNew C n γ dws g) σ H Q) :
    sA ⟨K, cl⟩ Wx g σ H (fun vs H1 => ∀ x dx, H1 x = none → H1 dx = none → dx ≠ x → spI ⟨K, cl⟩ n γ (.ref x :: (vs ++ dvs)) (upd (upd H1 dx (.own x)) x (.ins (cl C) dx [])) (fun v H2 => v = .non ∧ Q (.ref x) H2) fun k d H' => Wx k d σ H') := by
  obtain ⟨F, ρ, m, τ, r, s, p⟩ := h
  refine ⟨F, ρ, m, τ, r, s, ?_⟩
  unfold eNew bnd at p
  cases e : g τ m with
  | bad =>
    rw [e] at p
    exact p
  | exc x m' =>
    rw [e] at p
    exact p
  | ok ws m1 =>
    rw [e] at p
    dsimp only at p
    intro vs F1 ρ1 H1 r1 g1 q1 x dx hx hdx ne
    split at p
    · rename_i hl
      have h2 := q1.append (hd F1 ρ1)
      obtain ⟨r2, g2⟩ := r1.newH hdx (.own x)
      have hx2 : upd H1 dx (.own x) x = none := by rw [upd_ne (Ne.symm ne)]; exact hx
      obtain ⟨r3, g3⟩ := r2.newH hx2 (.ins (cl C) dx [])
      have gd : Go F1 ρ1 H1 F1 ρ1 (del1 (upd (upd H1 dx (.own x)) x (.ins (cl C) dx [])) x) := ⟨Same.refl _, .refl _, fun b z eb _ => by
        have n1 : b ≠ x := ne_of_none eb hx
        have n2 : b ≠ dx := ne_of_none eb hdx
        unfold del1
        rw [if_neg n1, upd_ne n1, upd_ne n2]
        exact eb, fun b z eb nb => ⟨nb, id⟩⟩
      refine ⟨by rw [List.length_cons, h2.length]; exact hl, x, vs ++ dvs, F1, ρ1, m1, ws ++ dws, .ins C [] [], _, rfl, r3, h2, r1.fnone hx, r1.notin hx, upd_same, ⟨dx, [], rfl, rfl, .nil⟩, ?_⟩
      unfold newM bnd at p
      cases e2 : γ (.ins C [] []) (ws ++ dws) m1 with
      | bad =>
        rw [e2] at p
        exact p
      | exc z m' =>
        rw [e2] at p
        intro cls d F' ρ' H' r' g' q'
        have gg := gd.trans g'
        refine p cls d F' ρ' H' r' (g1.trans gg) (XR.back g1 ?_ g1.nn (r1.live1 g1))
        refine XR.back (H1 := del1 (upd (upd H1 dx (.own x)) x (.ins (cl C) dx [])) x) gd q' gd.nn (fun b hb => ?_)
        have hl := r1.live b hb
        cases eb : H1 b with
        | none => exact absurd eb hl
        | some z =>
          have n1 : b ≠ x := ne_of_none eb hx
          have n2 : b ≠ dx := ne_of_none eb hdx
          unfold del1
          rw [if_neg n1, upd_ne n1, upd_ne n2, eb]
          exact fun w => by cases w
      | ok o m2 =>
        rw [e2] at p
        dsimp only at p
        intro F' ρ' H' h' r' g' k1 k2 k3 k4
        split at p
        · rename_i hz
          obtain ⟨r4, q4⟩ := r'.frzO k1 k2 k3 k4 hz
          exact ⟨rfl, p _ _ _ _ r4 (g1.trans ((gd.trans g').frzO hx k1)) q4⟩
        · exact p.elim
    · exact p.elim
theorem s_new (Ci : CalI X.prog X.w X.K X.mg X.base cl k C n dws γ) (hr : Room (k + 1) X.A) (tk : Takes X Wx) (ha : SA ⟨X.K, cl⟩ X Wx (e :: es) g) (hg : Gl X C := by rfl) (hdb : (C == ("__debug__" : Str)) = false := by decide)
    (he : starEach (e :: es) X.env = (false, eval e X.env) :: starEach es X.env := by rfl) (hpl : (backTo pos (starEach es X.env)).any (·.1) = false := by rfl) : SE ⟨X.K, cl⟩ X Wx (.Call (.Name C p) (e :: es) [] pos) (eNew C n γ dws g) := by
  obtain ⟨f, fd, ps, ds, dvs, F, rfl, hm, M, hb, hd, hw⟩ := Ci.ex
  refine ⟨fun pins s σ H Q I h => ?_⟩
  refine wpAny_Call_Name_kw (ld_glob I hg hm ?_ hdb)
  refine PySem.W.callWith_K (h₀ := X.base) I.ok.mod.kin M.kp (thn (ha.run pos pins s σ H _ I (w_new hw h)) fun us s1 ⟨vs, H1, I1, r, q⟩ => ⟨I1.kIn, ?_⟩) he hpl
  exact run_makeS M F hr hb hd tk I1 r q
theorem s_new0 (Ci : CalI X.prog X.w X.K X.mg X.base cl k C n dws γ) (hr : Room (k + 1) X.A) (tk : Takes X Wx) (hg : Gl X C := by rfl) (hdb : (C == ("__debug__" : Str)) = false := by decide) : SE ⟨X.K, cl⟩ X Wx (.Call (.Name C p) [] [] pos) (eNew C n γ dws aNil) := by
  obtain ⟨f, fd, ps, ds, dvs, F, rfl, hm, M, hb, hd, hw⟩ := Ci.ex
  refine ⟨fun pins s σ H Q I h => ?_⟩
  refine wpAny_Call_Name_kw (ld_glob I hg hm ?_ hdb)
  obtain ⟨F0, ρ, m, τ, r, hs, p⟩ := w_new hw h
  exact PySem.W.callWith_K0 I.kIn M.kp (run_makeS (us := []) M F hr hb hd tk I .nil (p [] F0 ρ H r .refl rfl))
end
end Sm

/-! S17: defs that say super(). -/
namespace Sm
open PySem PySem.Spec PyProof.Rows L2

structure FunS (P : Program) (K : PySem.W.Frag) (x qual : Str) (params : Arguments) (body : List Stmt) (scope : Scope) (f : Addr) (fd : FuncData) (cc D cda : Addr) : Prop where
  ex : ∃ (oc : Value) (od : Option Addr) (dV kV doc pm : Value) (an : Option Addr) (ct : Value) (osl : Array (Option Value)), fd = PySem.W.ksFn x qual params body scope dV kV doc pm an (.ref cda) ct cc ∧ K.lookup f = some ⟨oc, od, .func fd, osl⟩
  code : PySem.W.codeIn K (.ref cda) qual = true
  file : ∃ (ccl : Value) (cdd : Option Addr) (vs : Array Value) (ccs : Array (Option Value)) (file : Str) (tf : Tok), K.lookup cda = some ⟨ccl, cdd, .fields vs, ccs⟩ ∧ vs[2]? = some (.str file tf) ∧ ((P.main.file : Str) == file) = true
  cell : ∃ (cl : Value) (cld : Option Addr) (csl : Array (Option Value)), K.lookup cc = some ⟨cl, cld, .cell (some (.ref D)), csl⟩
  cls : ∃ cd, PySem.W.clsIn K D = some cd
structure ScS (N P : List Str) (sc : Scope) : Prop where
  kind : sc.kind = .function
  co : sc.isCoroutine = false
  gen : sc.isGenerator = false
  nd : N.Nodup
  pre : N.take P.length = P
  par : ∀ x ∈ P, sc.names.lookup x = some .local
  nocell : ∀ y ∈ sc.names, y.2 ≠ .cell
  free : ∀ y ∈ sc.names, y.2 = .free → y.1 = ("__class__" : Str)

abbrev envS (qual : Str) (scope : Scope) (L f cda cc : Addr) : Env := PySem.W.ksEnv qual scope L f (.ref cda) cc
def cxS (CX : CXT) (P : Program) (w : World) (K : PySem.W.Frag) (mg : Str → Option Value) (base : Heap) (N : List Str) (qual : Str) (scope : Scope) (f cda cc : Addr) (A : Around) (outer : List Env) (s : Shared) (H : Hp) (E : XK) : Cx where
  prog := P
  w := w
  K := K
  mg := mg
  base := base
  A := A.deeper (envS qual scope s.heap.objs.size f cda cc)
  N := N
  s_0 := s
  H_0 := H
  env := envS qual scope s.heap.objs.size f cda cc
  outer := outer
  stack := envS qual scope s.heap.objs.size f cda cc :: outer
  ex := []
  calm := true
  fn := fun x => !(x == ("__class__" : Str))
  pn := []
  xe := fun e s' => wpAny (model P w) (A.deeper (envS qual scope s.heap.objs.size f cda cc)) (leaving (envS qual scope s.heap.objs.size f cda cc) e) (fun _ s'' => CX outer H s E e s'') (fun e' s'' => CX outer H s E e' s'') s'

theorem rev_lookup {α : Type} {x : Str} {v : α} : ∀ {P : List Str} {vs : List α} {i : Nat}, P.Nodup → P[i]? = some x → vs[i]? = some v → (P.zip vs).reverse.lookup x = some v
  | [], _, _, _, h, _ => by simp at h
  | _ :: _, [], _, _, _, h => by simp at h
  | p :: P, w :: vs, 0, nd, h1, h2 => by
    simp at h1 h2
    subst h1 h2
    rw [List.zip_cons_cons, List.reverse_cons, List.lookup_append]
    have : (P.zip vs).reverse.lookup p = none := by
      rw [List.lookup_eq_none_iff]
      intro q hq
      have hq' := List.mem_reverse.mp hq
      have := (List.of_mem_zip (a := q.1) (b := q.2) hq').1
      simp only [bne_iff_ne, ne_eq, beq_eq_false_iff_ne]
      intro e
      first
        | exact (List.nodup_cons.mp nd).1 (e ▸ this)
    rw [this]
    simp
  | p :: P, w :: vs, i + 1, nd, h1, h2 => by
    rw [List.zip_cons_cons, List.reverse_cons, List.lookup_append, rev_lookup (i := i) (List.nodup_cons.mp nd).2 (by simpa using h1) (by simpa using h2)]
    rfl
section
variable {CXx : CXT} {P : Program} {w : World} {K : PySem.W.Frag} {mg : Str → Option Value} {base : Heap} {N ps : List Str} {qual : Str} {scope : Scope} {f cda cc D : Addr} {A : Around} {outer : List Env} {s : Shared} {H : Hp} {E : XK} {us : List Value} {vs : List V}
theorem inv_startS (S : ScS N ps scope) (hcell : ∃ (cl : Value) (cld : Option Addr) (csl : Array (Option Value)), K.lookup cc = some ⟨cl, cld, .cell (some (.ref D)), csl⟩) (hd : A.handled = none) (e0 : Env0 P w K mg base A outer s H) (hl : vs.length = ps.length) (r : Vals vs us) {h0 : Heap} {t' : Nat}
    (hns : h0.Ns s.heap.objs.size (fun x => (ps.zip us).reverse.lookup x)) (hk : ∀ b o, s.heap.get? b = some o → h0.get? b = some o) :
    Inv (cxS CXx P w K mg base N qual scope f cda cc A outer s H E) [] (L2.start N vs) H { s with heap := h0, toks := t' } := by
  have hpl : ps.length ≤ N.length := by have := congrArg List.length S.pre; rw [List.length_take] at this; omega
  have noA : ∀ b : Addr, b ∉ (cxS CXx P w K mg base N qual scope f cda cc A outer s H E).ex := fun b z => absurd (show b ∈ ([] : List Addr) from z) (by simp)
  obtain ⟨cl, cld, csl, lkc⟩ := hcell
  have hcb := e0.bs _ _ (e0.mod.kin _ _ lkc)
  have cel : ∀ {y : Str} {c : Addr}, List.lookup y [(("__class__" : Str), cc)] = some c → y = ("__class__" : Str) ∧ c = cc := fun {y c} h => by
    by_cases e : y = ("__class__" : Str)
    · subst e
      simp [List.lookup] at h
      exact ⟨rfl, h.symm⟩
    · have : (y == ("__class__" : Str)) = false := by simpa using e
      simp [List.lookup, this] at h
  refine ⟨⟨e0.mod, S.kind, rfl, rfl, Nat.le_refl _, fun y z c h1 h2 => ?_, fun y hy => ?_, fun y c hf h => ?_, fun _ => hd, Around.frames_deeper e0.frames, .inr ⟨rfl, rfl⟩, fun b z => absurd z (noA b), e0.bs, e0.bsz, fun b _ _ => noA b, fun b z => absurd z (noA b), e0.funs, e0.frf⟩,
    rfl, e0.bare, Un.kept hk, ⟨_, hns, fun i y v h1 h2 h3 => ?_⟩, fun y c h => ?_, e0.hok.fresh (Nat.le_refl _), fun y c h => ?_, fun p hp => absurd (show p ∈ ([] : List (Addr × Obj)) from hp) (by simp), e0.hok.kept hk, ?_⟩
  · exact (cel h1).1.trans (cel h2).1.symm
  · have hy : scope.names.lookup y = some .cell ∨ scope.names.lookup y = some .free := hy
    rcases hy with hy | hy
    · exact absurd rfl (S.nocell _ (PySem.mem_of_lookup hy))
    · have := S.free _ (PySem.mem_of_lookup hy) rfl
      dsimp only at this
      subst this
      exact ⟨cc, rfl⟩
  · have e := (cel h).1
    subst e
    have hf' : (!(("__class__" : Str) == ("__class__" : Str))) = true := hf
    exact absurd hf' (by decide)
  · have hi : i < vs.length := by
      unfold L2.start at h2
      by_cases hi : i < vs.length
      · exact hi
      · rw [List.getElem?_append_right (by simpa using hi)] at h2
        rw [List.getElem?_replicate] at h2
        split at h2 <;> cases h2
    have ha : vs[i]? = some v := by
      unfold L2.start at h2
      rw [List.getElem?_append_left (by simpa using hi), List.getElem?_map] at h2
      cases e : vs[i]? with
      | none => rw [e] at h2; cases h2
      | some a => rw [e] at h2; cases h2; rfl
    obtain ⟨u, hu, rv⟩ := r.get ha
    have hp : ps[i]? = some y := by
      rw [← S.pre, List.getElem?_take_of_lt (by omega)]; exact h1
    have ndP : ps.Nodup := by rw [← S.pre]; exact S.nd.sublist (List.take_sublist _ _)
    exact ⟨u, rv, .inl ⟨S.par y (List.mem_of_getElem? hp), rev_lookup ndP hp hu⟩⟩
  · obtain ⟨_, rfl⟩ := cel h
    exact ⟨_, _, hk _ _ hcb.1, rfl⟩
  · obtain ⟨_, rfl⟩ := cel h
    exact hcb.2
  · unfold L2.start
    show _ = N.length
    rw [List.length_append, List.length_map, List.length_replicate]
    omega
end

/-! ### statements right within the def -/
structure PA1 (X : Cx) (c : Code) (st : Stmt) (t : TS) : Prop where
  run : ∀ (pins : List (Addr × Obj)) (s : Shared) (σ : L2.St) (H : Hp) (D : Ends), Inv X pins σ H s → t D σ H → _root_.PySem.wpAt (model X.prog X.w) X.A c (exec st X.env) (SP X pins D) X.xe s
structure PAs (X : Cx) (c : Code) (st : List Stmt) (t : TS) : Prop where
  run : ∀ (pins : List (Addr × Obj)) (s : Shared) (σ : L2.St) (H : Hp) (D : Ends), Inv X pins σ H s → t D σ H → _root_.PySem.wpAt (model X.prog X.w) X.A c (execs st X.env) (SP X pins D) X.xe s
abbrev SX1 (c : Cn) (X : Cx) (Wx : WX) (B : Bs) (cd : Code) (st : Stmt) (f : Fs) : Prop := PA1 X cd st (sS c Wx B f)
abbrev SXA (c : Cn) (X : Cx) (Wx : WX) (B : Bs) (cd : Code) (st : List Stmt) (f : Fs) : Prop := PAs X cd st (sS c Wx B f)
section
variable {c : Cn} {X : Cx} {Wx : WX} {B : Bs} {cd : Code}
theorem a_of {st : List Stmt} {f : Fs} (h : SXs c X Wx B st f) : SXA c X Wx B cd st f := ⟨fun pins s σ H D I q => PySem.wpAt_of_wpAny (h.run pins s σ H D I q)⟩
theorem a_one {st : Stmt} {f : Fs} (h : SX c X Wx B st f) : SX1 c X Wx B cd st f := ⟨fun pins s σ H D I q => PySem.wpAt_of_wpAny (h.run pins s σ H D I q)⟩
theorem a_step {st : Stmt} {rest : List Stmt} {f g : Fs} (h1 : SX1 c X Wx B cd st f) (h2 : SXA c X Wx B cd rest g) : SXA c X Wx B cd (st :: rest) (sSeq f g) := ⟨fun pins s σ H D I ⟨F, ρ, m, τ, fr, p⟩ => by
  refine PySem.ks_wpAt_execs_cons (PySem.ks_wpAt_mono (h1.run pins s σ H { D with nx := sS c Wx B g D } I ⟨F, ρ, m, τ, fr, ?_⟩) (fun fl s1 q => ?_) fun _ _ z => z)
  · unfold sSeq at p
    cases e : f τ m with
    | bad =>
      rw [e] at p
      exact p
    | exc x m' =>
      rw [e] at p
      exact p
    | ok o m1 =>
      rw [e] at p
      cases o with
      | nx τ1 => exact fun σ1 F1 ρ1 H1 fr1 => ⟨F1, ρ1, m1, τ1, fr1, p⟩
      | rt w => exact p
      | bk τ1 => exact p
      | ct τ1 => exact p
      | ex x τ1 => exact p
  · cases fl with
    | next =>
      obtain ⟨σ', H', I', q⟩ := q
      exact h2.run pins s1 σ' H' D I' q
    | ret v => exact q
    | brk => exact q
    | cont => exact q⟩
end
end Sm

/-! S18: super().__init__(..). -/
namespace Sm
open PySem PySem.Spec PyProof.Rows L2

def clsO : MO → Option Str
  | .ins C _ _ => some C
  | .tin C _ _ _ => some C
  | _ => none
theorem clsO_ok {c : Cn} {F : Hp} {ρ : List Addr} {a : Addr} {o : MO} {h : HO} {C : Str} (e : clsO o = some C) (q : OR c F ρ a o h) : ∃ dx gs, h = .ins (c.cl C) dx gs := by
  cases o with
  | ins C' ns vs =>
    cases e
    obtain ⟨dx, gs, rfl, _⟩ := q
    exact ⟨dx, gs, rfl⟩
  | tin C' ns vs kids =>
    cases e
    obtain ⟨dx, gs, t, rr, rfl, _⟩ := q
    exact ⟨dx, gs, rfl⟩
  | lst _ => cases e
  | dK _ _ => cases e
  | dT _ _ => cases e
def sSup (C : Str) (n : Nat) (γ : MO → List W → M MO) (g : Fas) : Fs := fun τ m => match (τ[(0 : Nat)]? : Option Sl) with
  | some (.own o) => if clsO o = some C then exS (g τ m) τ fun ws m' => if ws.length + 1 = n then (match γ o ws m' with
      | .ok o' m2 => .ok (.nx (τ.set 0 (.own o'))) m2
      | _ => .bad) else .bad
    else .bad
  | _ => .bad
theorem useAG {c : Cn} {Wx : WX} {B : Bs} {F : Hp} {ρ : List Addr} {m : Sto} {τ : SS} {σ : L2.St} {H : Hp} {g : Fas} {k : List W → Sto → Res Out} {Q : List V → Hp → Prop} {D : Ends} (fr : Fr c B F ρ m τ σ H) (p : Post (okS c Wx B D) (fun _ _ => False) (exS (g τ m) τ k))
    (h : ∀ w m' v F' ρ' H', Fr c B F' ρ' m' τ σ H' → Go F ρ H F' ρ' H' → RWs c F' ρ' w v → Post (okS c Wx B D) (fun _ _ => False) (k w m') → Q v H') : sA c Wx g σ H Q := by
  refine ⟨F, ρ, m, τ, fr.r, fr.s, ?_⟩
  unfold exS at p
  cases e : g τ m with
  | bad =>
    rw [e] at p
    exact p
  | exc x m' =>
    rw [e] at p
    exact Fr.ex (D := D) fr p
  | ok w m1 =>
    rw [e] at p
    exact fun v F1 ρ1 H1 r1 g1 q => h w m1 v F1 ρ1 H1 (fr.go r1 g1) g1 q p
theorem Fr.self {c : Cn} {B : Bs} {F F' : Hp} {ρ ρ' : List Addr} {m m' : Sto} {τ : SS} {σ : L2.St} {H H' : Hp} {i : Nat} {o o' : MO} {a : Addr} {h' : HO} (x : Fr c B F ρ m τ σ H) (e : τ[i]? = some (.own o)) (es : σ[i]? = some (some (V.ref a)))
    (r : R c F' ρ' m' H') (g : Go F ρ (del1 H a) F' ρ' H') (h1 : F' a = none) (h2 : a ∉ ρ') (h3 : H' a = some h') (h4 : OR c F' ρ' a o' h') : Fr c B F' ρ' m' (τ.set i (.own o')) σ H' := by
  have nb := x.fresh i o a e es
  have gd : Go B.F B.ρ B.H F ρ (del1 H a) := ⟨x.g.ff, x.g.pre, fun b z eb n => by
    have ne : b ≠ a := fun w => by rw [w, nb] at eb; cases eb
    unfold del1
    rw [if_neg ne]
    exact x.g.keep b z eb n, x.g.off⟩
  have old : ∀ {k : Nat} {oo : MO}, (τ.set i (.own o'))[k]? = some (.own oo) → ∃ o2, τ[k]? = some (.own o2) := fun {k oo} hk => by
    rcases get_set hk with ⟨ei, _⟩ | ⟨ne, hk⟩
    · subst ei
      exact ⟨o, e⟩
    · exact ⟨oo, hk⟩
  refine ⟨r, ⟨by rw [List.length_set]; exact x.s.len, fun j w ew => ?_, fun j oo ej => ?_, fun j k o1 o2 b n e1 e2 e3 e4 => ?_⟩, gd.trans g, fun j oo b e1 e2 => ?_, fun oo b eb e1 => ?_⟩
  · rcases get_set ew with ⟨_, ew⟩ | ⟨ne, ew⟩
    · cases ew
    · obtain ⟨v, q1, q2⟩ := x.s.val j w ew
      exact ⟨v, q1, q2.mono g.ff g.pre⟩
  · rcases get_set ej with ⟨ei, ew⟩ | ⟨ne, ej⟩
    · subst ei
      cases ew
      exact ⟨a, h', es, h1, h2, h3, h4⟩
    · obtain ⟨b, hb, k1, k2, k3, k4, k5⟩ := x.s.own j oo ej
      have nba : b ≠ a := fun z => by
        subst z
        exact x.s.nd i j o oo b ne e ej es k1
      have kd : del1 H a b = some hb := by
        unfold del1
        rw [if_neg nba]
        exact k4
      obtain ⟨q1, q2⟩ := g.off b hb kd k3
      exact ⟨b, hb, k1, q2 k2, q1, g.keep b hb kd k3, k5.mono g.ff g.pre⟩
  · obtain ⟨p1, g1⟩ := old e1
    obtain ⟨p2, g2⟩ := old e2
    exact x.s.nd j k p1 p2 b n g1 g2 e3 e4
  · obtain ⟨p1, g1⟩ := old e1
    exact x.fresh j p1 b g1 e2
  · obtain ⟨p1, g1⟩ := old e1
    exact x.slf p1 b eb g1

theorem callWith_Mp {M : Model} {A : Around} {E : Value → Shared → Prop} {s : Shared} {K : PySem.W.Frag} {env : Env} {pos : Pos} {first : List Value} {Q : Value → Shared → Prop} {q g : Addr} {self : Value} {e : Expr} {rest : List Expr} (hf : PySem.W.fnIn K g = true)
    (h : wpAny M A (spliced (backTo pos (starEach (e :: rest) env))) (fun vs s₁ => PySem.W.MethP K q g self s₁.heap ∧ wpAny M A (call (.ref q) (first ++ vs)) Q E s₁) E s)
    (he : starEach (e :: rest) env = (false, eval e env) :: starEach rest env) (hplain : (backTo pos (starEach rest env)).any (·.1) = false) :
    wpAny M A (callWith pos (.ref q) first (backTo pos (starEach (e :: rest) env)) []) Q E s := by
  rw [he] at h ⊢
  exact PySem.W.callWith_of (by show ((false || (backTo pos (starEach rest env)).any (·.1)) || false) = false; rw [hplain]; rfl) (PySem.W.keeps_M hf) (Calls.evalArgs_plain h)
/-- what of the text super().__init__ in a def of the class C leads to -/
structure SupI (P : Program) (w : World) (K : PySem.W.Frag) (mg : Str → Option Value) (base : Heap) (cl : Str → Addr) (k : Nat) (C : Str) (n : Nat) (γ : MO → List W → M MO) : Prop where
  sub : PySem.W.mroIn K (cl C) (.ref (cl C)) = some true
  op : PySem.W.nsIn K cStatics "thirdparty.any" = some none
  top : (P.main.scope.names.lookup ("super" : Str)).isSome = false
  nmg : mg "super" = none
  ex : ∃ f fd ps, FnOk P w K mg base (CX P w) k f fd ps (spI ⟨K, cl⟩ ps.length γ) ∧ ps.length = n ∧ Binds K fd ps [] ∧ PySem.W.ks_superIn K (cl C) (cl C) "__init__" = some (some (.ref f)) ∧ PySem.W.typeIn K (.ref f) = some (.type "function") ∧ PySem.W.fnIn K f = true
section
variable {P : Program} {w : World} {K : PySem.W.Frag} {mg : Str → Option Value} {base : Heap} {cl : Str → Addr} {N : List Str} {x qual : Str} {params : Arguments} {body body' : List Stmt} {scope : Scope} {f cda cc : Addr} {fd : FuncData} {A : Around} {outer : List Env} {s0 : Shared} {H0 : Hp} {E : XK}
  {Wx : WX} {B : Bs} {k n : Nat} {C : Str} {γ : MO → List W → M MO} {e : Expr} {es : List Expr} {g : Fas} {p0 p1 p2 p3 p4 : Pos} {ar : Arg}
theorem a_super {pl : Sem Bool} (Fs : FunS P K x qual params body' scope f fd cc (cl C) cda) (SI : SupI P w K mg base cl k C n γ) (hr : Room k (cxS (CX P w) P w K mg base N qual scope f cda cc A outer s0 H0 E).A) (tk : Takes (cxS (CX P w) P w K mg base N qual scope f cda cc A outer s0 H0 E) Wx)
    (ha : SA ⟨K, cl⟩ (cxS (CX P w) P w K mg base N qual scope f cda cc A outer s0 H0 E) Wx (e :: es) g)
    (hp : (params.posonlyargs ++ params.args).head? = some ar) (hN : N[0]? = some ar.arg) (hka : scope.names.lookup ar.arg = some .local) (hks : scope.names.lookup ("super" : Str) = some .globalImplicit) (hkc : scope.names.lookup ("__class__" : Str) = some .free)
    (hc : eval (.Call (.Attribute (.Call (.Name "super" p0) [] [] p1) "__init__" p2) (e :: es) [] p3) (envS qual scope s0.heap.objs.size f cda cc) = (do
      let ov ← attributeBase (.Call (.Name "super" p0) [] [] p1) "__init__" (envS qual scope s0.heap.objs.size f cda cc) (eval (.Call (.Name "super" p0) [] [] p1) (envS qual scope s0.heap.objs.size f cda cc))
      standAt p2.atName
      let (f', first) ← holding [ov] (getMethod ov "__init__" pl)
      callWith p3 f' first (backTo p3 (starEach (e :: es) (envS qual scope s0.heap.objs.size f cda cc))) []) := by rfl)
    (hi : interactive (envS qual scope s0.heap.objs.size f cda cc) = false := by rfl)
    (hs : swapsWith (.Call (.Attribute (.Call (.Name "super" p0) [] [] p1) "__init__" p2) (e :: es) [] p3) none p4.line (envS qual scope s0.heap.objs.size f cda cc) = pure false := by rfl)
    (he : starEach (e :: es) (envS qual scope s0.heap.objs.size f cda cc) = (false, eval e (envS qual scope s0.heap.objs.size f cda cc)) :: starEach es (envS qual scope s0.heap.objs.size f cda cc) := by rfl) (hpl : (backTo p3 (starEach es (envS qual scope s0.heap.objs.size f cda cc))).any (·.1) = false := by rfl) :
    SX1 ⟨K, cl⟩ (cxS (CX P w) P w K mg base N qual scope f cda cc A outer s0 H0 E) Wx B (.func body (envS qual scope s0.heap.objs.size f cda cc)) (.Expr (.Call (.Attribute (.Call (.Name "super" p0) [] [] p1) "__init__" p2) (e :: es) [] p3) p4) (sSup C n γ g) := by
  refine ⟨fun pins s σ H D I h => ?_⟩
  obtain ⟨F, ρ, m, τ, fr, p⟩ := h
  unfold sSup at p
  split at p
  rotate_left
  · exact p.elim
  rename_i o eo
  split at p
  rotate_left
  · exact p.elim
  rename_i ec
  obtain ⟨a, h0, e1, e2, e3, e4, e5⟩ := fr.s.own 0 o eo
  obtain ⟨dx, gs, rfl⟩ := clsO_ok ec e5
  obtain ⟨f2, fd2, ps2, F2, rfl, hb2, hsi, ht, hfn⟩ := SI.ex
  obtain ⟨oc, od, dV, kV, doc, pm, an, ct, osl, rfl, lkf⟩ := Fs.ex
  obtain ⟨ccl, cdd, vs, ccs, file, tf, lkc, hvs, hfile⟩ := Fs.file
  obtain ⟨lcl, cld, csl, lcc⟩ := Fs.cell
  obtain ⟨cdD, hD⟩ := Fs.cls
  have KI := I.kIn
  have hok : ObjOk P w H s.heap a (.ins (cl C) dx gs) := I.hok a _ e4
  obtain ⟨k1, k2, k3, k4, mA, k5, k6, k7⟩ := hok
  have ks4 : scope.kind = .function := I.ok.kind
  obtain ⟨oD, hD1, hD2⟩ : ∃ oD, s.heap.get? (cl C) = some oD ∧ oD.data = .cls cdD := by
    unfold PySem.W.clsIn at hD
    split at hD
    · rename_i c d cd' sl ho
      cases hD
      exact ⟨_, KI _ _ ho, rfl⟩
    · cases hD
  have nac : a ≠ cl C := fun z => by
    rw [← z, k4] at hD1
    cases hD1
    cases hD2
  refine ks_wpAt_Expr_any (env := envS qual scope s0.heap.objs.size f cda cc) (ks_wpAt_MethodCall (ks_wpAt_super_base (env := envS qual scope s0.heap.objs.size f cda cc) (ar := ar) hks hkc (by decide) rfl (KI _ _ lkf) rfl hp rfl (KI _ _ lkc) rfl hvs hfile SI.top ?_) hc) hi hs
  obtain ⟨mb, b1, b2⟩ := I.mod.blt
  refine PySem.W.ks_loadName_global (env := envS qual scope s0.heap.objs.size f cda cc) ks4 hks (Calls.loadGlobal_builtin (env := envS qual scope s0.heap.objs.size f cda cc) (I.mod.glob.keeps I.bk) SI.nmg (b1.keeps I.bk) ((b2 _ (by decide)).trans (show bootBuiltins "super" = some (.type "super") from by kernel_rfl)) ⟨rfl, ?_⟩)
  refine wpAny_loadName_free (env := envS qual scope s0.heap.objs.size f cda cc) ks4 hkc rfl ⟨_, KI _ _ lcc, rfl⟩ ?_
  obtain ⟨ml, hn, hl⟩ := I.loc
  obtain ⟨u, ru, l⟩ := hl 0 ar.arg (.ref a) hN e1 (Or.inl hka)
  obtain rfl : u = Value.ref a := ru
  have hml : ml ar.arg = some (.ref a) := by
    rcases l with ⟨_, hm⟩ | ⟨hk, _⟩
    · exact hm
    · have hk' : scope.names.lookup ar.arg = some .cell ∨ scope.names.lookup ar.arg = some .free := hk
      rw [hka] at hk'
      rcases hk' with z | z <;> cases z
  refine wpAny_loadName_local (env := envS qual scope s0.heap.objs.size f cda cc) ks4 hka hn hml ?_
  refine ks_wpAny_isType_cls hD1 hD2 ⟨rfl, ?_⟩
  obtain ⟨hh, gg, dd, tt, os⟩ := s
  refine ks_wpAny_call_super hD1 hD2 k4 rfl (fun c z => by cases z) (PySem.W.looks_mroIn KI SI.sub) (fun h1 es1 kk => ?_)
  have I1 : Inv (cxS (CX P w) P w K mg base N qual scope f cda cc A outer s0 H0 E) pins σ H ⟨h1, gg, dd, tt, os⟩ := I.kept (t' := tt) kk
  obtain ⟨cdC, hC, hsi'⟩ : ∃ cd, PySem.W.clsIn K (cl C) = some cd ∧ PySem.W.alongIn K "__init__" ((cd.mro.dropWhile (· != .ref (cl C))).drop 1) = some (some (.ref f2)) := by
    unfold PySem.W.ks_superIn at hsi
    cases hc : PySem.W.clsIn K (cl C) with
    | none => rw [hc] at hsi; cases hsi
    | some cd => rw [hc] at hsi; exact ⟨cd, rfl, hsi⟩
  obtain ⟨of, hof, hofc⟩ : ∃ of, h1.get? f2 = some of ∧ of.cls = .type "function" := by
    have ht' : (K.lookup f2).map (·.cls) = some (.type "function") := ht
    cases z : K.lookup f2 with
    | none => rw [z] at ht'; cases ht'
    | some of => rw [z] at ht'; exact ⟨of, I1.kIn _ _ z, Option.some.inj ht'⟩
  refine ks_wpAny_getMethod_super es1 (PySem.W.looks_opaque I1.kIn SI.op) (l₀ := cdC.mro) ?_ rfl I1.kIn hsi' hof hofc nac (by decide) ?_
  · exact fun A Q E s k q => wpAny_bind ((PySem.W.looks_clsIn I1.kIn hC) A _ E s k (wpAny_pure q))
  have hq0 : H h1.objs.size = none := I1.hok.fresh (Nat.le_refl _)
  have I2 : Inv (cxS (CX P w) P w K mg base N qual scope f cda cc A outer s0 H0 E) pins σ (upd H h1.objs.size (.met f2 a)) ⟨h1.push (PySem.W.methodObj (.ref f2) (.ref a)), gg, dd, tt + 1, os⟩ :=
    I1.laid (t' := tt + 1) (a := h1.objs.size) (o := .met f2 a) (h' := h1.push (PySem.W.methodObj (.ref f2) (.ref a))) (fun b o z => Heap.get?_push_of_some _ z) (Nat.le_refl _) (show _ = _ from Heap.get?_push_size _ rfl)
  obtain ⟨r2, g2⟩ := fr.r.newH hq0 (.met f2 a)
  have fr2 := fr.go r2 g2
  refine callWith_Mp (q := h1.objs.size) (self := .ref a) hfn ?_ he hpl
  refine thn (ha.run p3 pins _ σ _ (fun vs H2 => ∃ F' ρ' m' ws, Fr ⟨K, cl⟩ B F' ρ' m' τ σ H2 ∧ RWs ⟨K, cl⟩ F' ρ' ws vs ∧ H2 h1.objs.size = some (.met f2 a) ∧ Post (okS ⟨K, cl⟩ Wx B D) (fun _ _ => False) (if ws.length + 1 = ps2.length then (match γ o ws m' with
      | .ok o' m2 => .ok (.nx (τ.set 0 (.own o'))) m2
      | _ => .bad) else .bad)) I2 (useAG fr2 p fun ws m' vs F' ρ' H' fr' gg' rws q => ⟨F', ρ', m', ws, fr', rws, gg'.keep _ _ upd_same (fr.r.notin hq0), q⟩)) fun us s3 ⟨vs, H3, I3, rv, F', ρ', m', ws, fr3, rws, hq3, p3'⟩ => ?_
  have hmet : s3.heap.get? h1.objs.size = some (PySem.W.methodObj (.ref f2) (.ref a)) := I3.hok _ _ hq3
  refine ⟨⟨hmet, I3.kIn⟩, ?_⟩
  split at p3'
  rotate_left
  · exact p3'.elim
  rename_i hlen
  obtain ⟨a', h3, q1, q2, q3, q4, q5⟩ := fr3.s.own 0 o eo
  rw [e1] at q1
  cases q1
  have r3 : Vals (V.ref a :: vs) (Value.ref a :: us) := .cons rfl rv
  have hsp : spI ⟨K, cl⟩ ps2.length γ (V.ref a :: vs) H3 (fun v H4 => D.nx σ H4) (fun c d H' => Wx c d σ H') := by
    refine ⟨by rw [List.length_cons, rws.length]; exact hlen, a, vs, F', ρ', m', ws, o, h3, rfl, fr3.r, rws, q2, q3, q4, q5, ?_⟩
    cases eg : γ o ws m' with
    | bad =>
      rw [eg] at p3'
      exact p3'
    | exc z m2 =>
      rw [eg] at p3'
      exact p3'.elim
    | ok o' m2 =>
      rw [eg] at p3'
      intro F4 ρ4 H4 h4 r4 g4 t1 t2 t3 t4
      exact p3' σ F4 ρ4 H4 (fr3.self eo e1 r4 g4 t1 t2 t3 t4)
  have hl2 : (Value.ref a :: us).length = ps2.length := by rw [← r3.length]; exact F2.len _ _ _ _ hsp
  have bt := hb2 s3 (Value.ref a :: us) I3.kIn (by rw [List.append_nil]; exact hl2)
  rw [List.append_nil] at bt
  refine wpAny_call (ks_codeAny_call_bound hmet (codeAny_mono (F2.run _ _ s3 H3 ⟨Value.ref a :: us, []⟩ (Value.ref a :: us) (V.ref a :: vs) _ _ hr I3.env0 bt r3 hsp) fun r s' hq => ?_))
  cases r with
  | error er => exact tk er s' (XE.of_call I3 (fun _ _ _ z => z) hq)
  | ok fl =>
    cases fl with
    | ret u =>
      obtain ⟨v, H5, I5, _, hnx⟩ := I3.after hq
      exact ⟨σ, H5, I5, hnx⟩
    | next => exact False.elim hq
    | brk => exact False.elim hq
    | cont => exact False.elim hq
end
end Sm

/-! S19: an __init__ that says super(); Tree.__init__. -/
namespace Sm
open PySem PySem.Spec PyProof.Rows L2

section
variable {P : Program} {w : World} {K : PySem.W.Frag} {mg : Str → Option Value} {base : Heap} {cl : Str → Addr}
theorem init_okS {x qual : Str} {params : Arguments} {body : List Stmt} {scope : Scope} {f cda cc D : Addr} {fd : FuncData} {N ps : List Str} {k : Nat} {g : Fs} (Fs : FunS P K x qual params body scope f fd cc D cda) (S : ScS N ps scope)
    (hb : ∀ (A : Around) (outer : List Env) (s : Shared) (H : Hp) (E : XK) (B : Bs), Ctx (cxS (CX P w) P w K mg base N qual scope f cda cc A outer s H E) (fun cls d _ H => E cls d H) k →
      SXA ⟨K, cl⟩ (cxS (CX P w) P w K mg base N qual scope f cda cc A outer s H E) (fun cls d _ H => E cls d H) B (.func body (envS qual scope s.heap.objs.size f cda cc)) body g) :
    FnOk P w K mg base (CX P w) (k + 1) f fd ps (spI ⟨K, cl⟩ ps.length (runI N.length g)) := by
  refine ⟨fun vs H Q E h => h.1, fun A outer s H args us vs Q E hr e0 hbd r hsp => ?_⟩
  obtain ⟨oc, od, dV, kV, doc, pm, an, ct, osl, rfl, lk⟩ := Fs.ex
  have hl := hsp.1
  have KX : K.In s.heap := e0.mod.kin.keeps fun b o e => (e0.bs b o e).1
  have lim : s.heap.NoLimit := e0.mod.nolimit.keeps fun b o e => (e0.bs b o e).1
  refine ks_codeAny_call_defAt hr.depth (KX _ _ lk) rfl lim (PySem.W.codeRec_of KX Fs.code) rfl hbd S.nocell (fun y hy => ?_) (fun h0 hns hk => ?_) S.co S.gen S.kind
  · obtain ⟨n, v⟩ := y
    exact S.par n (List.of_mem_zip hy).1
  obtain ⟨_, a, vs', F, ρ, m, ws, o, h, rfl, rr, q, h1, h2, h3, h4, p⟩ := hsp
  have tk : Takes (cxS (CX P w) P w K mg base N qual scope f cda cc A outer s H E) (fun cls d _ H => E cls d H) := takes_of rfl rfl rfl rfl
  have I := inv_startS (CXx := CX P w) (E := E) (f := f) (cda := cda) (qual := qual) (t' := s.toks + (ps.zip us).length) S Fs.cell hr.hd e0 hl r hns hk
  have B := hb A outer s H E ⟨F, ρ, del1 H a, some a⟩ ⟨rfl, tk, passes_of rfl, hr.deeper _, S.nd⟩
  refine ks_wpAt_mono (B.run [] _ _ H _ I ⟨F, ρ, m, _, start_FrI rr q h1 h2 h3 h4, okI rfl p⟩) (fun fl s' hs => ?_) fun e s' hs => hs
  have fin : ∀ {σ' : L2.St} {H' : Hp} {v : V} {u : Value}, Inv (cxS (CX P w) P w K mg base N qual scope f cda cc A outer s H E) [] σ' H' s' → RelV v u → Q v H' → CE outer P w H s Q u s' :=
    fun {σ' H' v u} J rv q => ⟨v, H', J.os, J.bare, J.base, J.hok, rv, q⟩
  cases fl with
  | ret u =>
    obtain ⟨v, σ', H', J, rv, q⟩ := hs
    exact fin J rv q
  | next =>
    obtain ⟨σ', H', J, q⟩ := hs
    exact fin (v := V.non) (u := Value.none) J rfl q
  | brk =>
    obtain ⟨_, _, _, q⟩ := hs
    exact False.elim q
  | cont =>
    obtain ⟨_, _, _, q⟩ := hs
    exact False.elim q
end
end Sm

/-! S20: extend by a tuple; Tree.__init__. -/
namespace Sm
open PySem PySem.Spec PySem.AutoSeq1
theorem ext_tup (l : Addr) (items : Array Value) (n : Nat) (b : Addr) (items2 : Array Value) (n2 : Nat) (dd : Option Addr) (sl : Array (Option Value)) (hs0 : ¬(!items.isEmpty && Builtin.List.listTooLong (items.size + items2.size)) = true) (hs1 : items.size ≤ sizeLine) (hs2 : items.size + items2.size ≤ sizeLine + 1) :
    Meets (Builtin.«list.extend» ⟨[.ref l, .ref b], []⟩) (fun _ R s => s.heap.get? l = some { cls := .type "list", dict := none, data := .seq items n, slots := #[] } ∧ s.heap.get? b = some { cls := .type "tuple", dict := dd, data := .seq items2 n2, slots := sl } ∧ R (.ok (.ret Value.none)) { s with heap := s.heap.update l (Obj.mapSeq fun x => x ++ items2), toks := s.toks }) :=
  .of_wp fun prog w A R s h => by
    obtain ⟨hp, g, d, tk, os⟩ := s; obtain ⟨hl, hb, h⟩ := h; have f1 := idx_int; have f2 := sub_tuple_tuple; have f3 := sub_list_list; have f4 := sub_tuple_list; have f5 := sub_list_tuple;
    have hz' : (items ++ items2).size ≤ sizeLine + 1 := by rw [Array.size_append]; exact hs2
    wp_walk using (wpAny_updateSeq hl rfl (hz := hs1) (_hz' := hz')), wpAny_loadPart' hl, wpAny_loadPart' hb; exact ⟨_, rfl, h⟩
end Sm
namespace Sm
open PySem PySem.Spec PyProof.Rows L2
def rExtT (K : PySem.W.Frag) : V → List V → Hp → VK → Prop := fun x vs H Q => ∃ l b xs zs, x = .ref l ∧ vs = [.ref b] ∧ H l = some (.lst xs) ∧ SqT K H b zs ∧ xs.length + zs.length ≤ sizeLine ∧ Q .non (upd H l (.lst (xs ++ zs)))
theorem mt_extT {X : Cx} : MtM X "list.extend" (rExtT X.K) := by
  intro pins s σ H x vs v us Q I rx rv h
  obtain ⟨l, b, xs, zs, rfl, rfl, hH, hB, hz, q⟩ := h
  cases rx
  obtain ⟨u, rfl, ru⟩ := rv.one
  cases ru
  obtain ⟨z, its, n, r, hl, e⟩ := I.lstM hH
  obtain ⟨its2, r2, ⟨o2, e2, hc2, n2, hd2⟩, z2⟩ := I.tuple hB
  have hl2 : zs.length = its2.length := r2.length
  obtain ⟨cls, dd, dat, sl⟩ := o2
  dsimp only at hc2 hd2
  subst hc2 hd2
  have hsz : its.toArray.size + its2.toArray.size ≤ sizeLine := by rw [List.size_toArray, List.size_toArray]; omega
  have hlong : ¬ (!its.toArray.isEmpty && Builtin.List.listTooLong (its.toArray.size + its2.toArray.size)) = true := by
    rw [notLongL hsz, Bool.and_false]
    exact Bool.false_ne_true
  refine call_meets F.slot_list_extend ⟨_, e, rfl⟩ F.entry_list_extend (F.args_list_extend_2 _ _)
    (ext_tup l its.toArray n b its2.toArray n2 dd sl hlong (by rw [List.size_toArray]; omega) (by omega)) ⟨e, e2, ?_⟩
  refine ⟨.non, _, I.lset (its' := its ++ its2) hH e (by simp) (r.append r2) ?_, rfl, q⟩
  rw [List.length_append]
  omega
/-! ### an own list is extended by a tuple -/
def sExt (i : Nat) (f : Fe) : Fs := fun τ m => match τ[i]? with
  | some (.own (.lst xs)) => exS (f τ m) τ fun w m' => match w with
    | .tup ys => if xs.length + ys.length ≤ sizeLine then .ok (.nx (τ.set i (.own (.lst (xs ++ ys))))) m' else .bad
    | _ => .bad
  | _ => .bad
section
variable {cl : Str → Addr} {X : Cx} {Wx : WX} {B : Bs} {e : Expr} {pos apos cpos : Pos}
theorem x_extend {i : Nat} {x : Str} {np : Pos} {f : Fe} (he : SE ⟨X.K, cl⟩ X Wx e f) (hN : X.N[i]? = some x := by rfl) (hv : Vis X.env.scope x := by first | exact Or.inl rfl | exact Or.inr (Or.inl rfl) | exact Or.inr (Or.inr rfl)) (hd : (x == ("__debug__" : Str)) = false := by decide) (hcd : (x == ("__classdict__" : Str)) = false := by decide)
    (hbase : attributeBase (.Name x np) "extend" X.env (eval (.Name x np) X.env) = eval (.Name x np) X.env := by rfl)
    (hfew : ((backTo cpos (starEach [e] X.env)).all (fun x => !x.1) && (backToKw cpos (keywordEach [] X.env)).all (fun x => x.1.isSome)
      && decide ([e].length + ([] : List Keyword).length + (if ([] : List Keyword).isEmpty then 0 else 1) < 30)) = true := by rfl)
    (hline : (apos.endLine == cpos.line) = true := by rfl) (hs : starEach [e] X.env = (false, eval e X.env) :: starEach [] X.env := by rfl) (hplain : (backTo cpos (starEach [] X.env)).any (·.1) = false := by rfl)
    (hsw : swapsWith (.Call (.Attribute (.Name x np) "extend" apos) [e] [] cpos) none pos.line X.env = pure false := by rfl) :
    SX ⟨X.K, cl⟩ X Wx B (.Expr (.Call (.Attribute (.Name x np) "extend" apos) [e] [] cpos) pos) (sExt i f) :=
  PS.weak (ps_expr (pe_bm PySem.F.plainAttrs_list PySem.F.slot_list_extend PySem.F.type_list_extend mt_extT (pe_var hN hv hd hcd) (pa_cons he pa_nil hs) hbase hfew hline hs hplain) hsw) fun D σ H ⟨F, ρ, m, τ, fr, p⟩ => by
    unfold sExt at p
    split at p
    · rename_i xs ho
      obtain ⟨a, h, e1, e2, e3, e4, vs, rfl, t⟩ := fr.s.own i _ ho
      refine ⟨.ref a, e1, .inl ⟨rfl, _, .of e4⟩, useE fr p fun w m' v F' ρ' H' fr' r q => ?_⟩
      obtain ⟨a', h', k1, k2, k3, k4, vs', rfl, t'⟩ := fr'.s.own i _ ho
      rw [e1] at k1
      cases k1
      split at q
      · rename_i ys
        split at q
        · rename_i hz
          unfold RW at r
          obtain ⟨b, us, rfl, sq, tu⟩ := r
          exact ⟨a, b, vs', us, rfl, rfl, k4, sqT_mono fr'.r.sub sq, by rw [t'.length, tu.length]; exact hz, q σ F' ρ' _ (fr'.upd_own ho e1 ⟨_, rfl, t'.append tu⟩)⟩
        · exact q.elim
      · exact q.elim
    · exact p.elim
end
end Sm

/-! S21: Tree.__init__. -/
namespace Sm
open PySem PySem.Spec PyProof.Rows L2
theorem NRs.snoc {c : Cn} {F : Hp} {ρ : List Addr} {C : Str} {ns : List Str} {vs kids : List W} {v : V} {r' : List V} (h1 : RW c F ρ (.tree C ns vs kids) v) (h2 : NRs c F ρ kids r') : ∀ {ks : List W} {r : List V}, NRs c F ρ ks r → NRs c F ρ (ks ++ [.tree C ns vs kids]) (r ++ (v :: r'))
  | [], r, h => by
    have e : r = [] := by unfold NRs at h; exact h
    subst e
    show NRs c F ρ [.tree C ns vs kids] (v :: r')
    unfold NRs
    refine ⟨v, r', [], by simp, h1, h2, ?_⟩
    unfold NRs
    rfl
  | .tree C' ns' vs' kids' :: ks, r, h => by
    unfold NRs at h
    obtain ⟨v1, r1, r2, rfl, q, t1, t2⟩ := h
    show NRs c F ρ (.tree C' ns' vs' kids' :: (ks ++ [.tree C ns vs kids])) _
    unfold NRs
    exact ⟨v1, r1, r2 ++ (v :: r'), by simp, q, t1, NRs.snoc h1 h2 t2⟩
  | .non :: _, _, h => by unfold NRs at h; exact h.elim
  | .bl _ :: _, _, h => by unfold NRs at h; exact h.elim
  | .int _ :: _, _, h => by unfold NRs at h; exact h.elim
  | .str _ :: _, _, h => by unfold NRs at h; exact h.elim
  | .tup _ :: _, _, h => by unfold NRs at h; exact h.elim
  | .lst _ :: _, _, h => by unfold NRs at h; exact h.elim
  | .dct _ _ :: _, _, h => by unfold NRs at h; exact h.elim
  | .obj _ _ _ :: _, _, h => by unfold NRs at h; exact h.elim
  | .ref _ :: _, _, h => by unfold NRs at h; exact h.elim
  | .ty _ :: _, _, h => by unfold NRs at h; exact h.elim
  | .cls _ :: _, _, h => by unfold NRs at h; exact h.elim
theorem Fr.slots {c : Cn} {B : Bs} {F : Hp} {ρ : List Addr} {m : Sto} {τ τ' : SS} {σ σ' : L2.St} {H : Hp} (x : Fr c B F ρ m τ σ H) (hl : τ'.length = σ'.length) (hv : ∀ (j : Nat) (w : W), τ'[j]? = some (.val w) → τ[j]? = some (.val w) ∧ σ'[j]? = σ[j]?)
    (ho : ∀ (j : Nat) (o : MO), τ'[j]? = some (.own o) → τ[j]? = some (.own o) ∧ σ'[j]? = σ[j]?) : Fr c B F ρ m τ' σ' H := by
  refine ⟨x.r, ⟨hl, fun j w e => ?_, fun j o e => ?_, fun i j o o' a n e1 e2 e3 e4 => ?_⟩, x.g, fun j o a e1 e2 => ?_, fun o a e e1 => ?_⟩
  · obtain ⟨h1, h2⟩ := hv j w e
    rw [h2]
    exact x.s.val j w h1
  · obtain ⟨h1, h2⟩ := ho j o e
    rw [h2]
    exact x.s.own j o h1
  · obtain ⟨h1, h2⟩ := ho i o e1
    obtain ⟨h3, h4⟩ := ho j o' e2
    rw [h2] at e3
    rw [h4] at e4
    exact x.s.nd i j o o' a n h1 h3 e3 e4
  · obtain ⟨h1, h2⟩ := ho j o e1
    rw [h2] at e2
    exact x.fresh j o a h1 e2
  · obtain ⟨h1, h2⟩ := ho 0 o e1
    rw [h2]
    exact x.slf o a e h1

theorem nodesL_app : ∀ (a b : List W), nodesL (a ++ b) = nodesL a ++ nodesL b
  | [], b => by
    rw [List.nil_append]
    conv => rhs; rw [nodesL]
    rfl
  | k :: a, b => by
    rw [List.cons_append]
    conv => lhs; rw [nodesL]
    conv => rhs; rw [nodesL]
    rw [nodesL_app a b, List.append_assoc]
theorem nodesL_take (ks : List W) (i : Nat) : (nodesL (ks.take i)).length ≤ (nodesL ks).length := by
  have := nodesL_app (ks.take i) (ks.drop i)
  rw [List.take_append_drop] at this
  rw [this, List.length_append]
  omega
def isT (At : Ats) : W → Bool
  | .tree C _ _ _ => hasA At C "nodes"
  | _ => false
theorem putF_new {f : Str} {v : V} : ∀ {gs : List (Str × V)}, f ∉ gs.map (·.1) → putF f v gs = gs ++ [(f, v)]
  | [], _ => rfl
  | (n, x) :: gs, h => by
    have hn : n ≠ f := fun e => h (by simp [e])
    show (if n = f then (n, v) :: gs else (n, x) :: putF f v gs) = _
    rw [if_neg hn, putF_new (fun q => h (by simp only [List.map_cons]; exact List.mem_cons_of_mem _ q))]
    rfl
theorem offN_none : ∀ {gs : List (Str × V)}, ("nodes" : Str) ∉ gs.map (·.1) → offN gs = gs
  | [], _ => rfl
  | (n, x) :: gs, h => by
    have hn : n ≠ ("nodes" : Str) := fun e => h (by simp [e])
    show (if n = ("nodes" : Str) then (n, V.non) else (n, x)) :: offN gs = _
    rw [if_neg hn, offN_none (fun q => h (by simp only [List.map_cons]; exact List.mem_cons_of_mem _ q))]
theorem lookup_none : ∀ {gs : List (Str × V)} {f : Str}, f ∉ gs.map (·.1) → gs.lookup f = none
  | [], _, _ => rfl
  | (n, x) :: gs, f, h => by
    have hn : f ≠ n := fun e => h (by simp [e])
    rw [lookup_put, if_neg hn]
    exact lookup_none (fun q => h (by simp only [List.map_cons]; exact List.mem_cons_of_mem _ q))
/-- found = [self]; for block in blocks: found.extend(block.nodes); self.nodes = tuple(found) -/
def sTree (At : Ats) : Fs := fun τ m => match (τ[(0 : Nat)]? : Option Sl), (τ[(2 : Nat)]? : Option Sl) with
  | some (.own (.ins C ns vs)), some (.val (.tup kids)) =>
    if kids.all (isT At) && hasA At C "nodes" && decide (ns.length < 1000) && !(ns.contains ("nodes" : Str)) && decide ((nodesL kids).length + 1 ≤ sizeLine) && decide (5 < τ.length)
    then .ok (.nx (((τ.set 4 .un).set 5 .un).set 0 (.own (.tin C (ns ++ [("nodes" : Str)]) (vs ++ [.non]) kids)))) m else .bad
  | _, _ => .bad
section
variable {cl : Str → Addr} {X : Cx} {Wx : WX} {B : Bs} {k : Nat} {At : Ats}
theorem x_tree {p1 p2 p3 p4 q1 q2 q3 q4 q5 q6 q7 q8 q9 r1 r2 r3 r4 r5 r6 : Pos} (x : Ctx X Wx k) (hA : AtOk X.K cl At) (hm : X.mg "tuple" = none)
    (n0 : X.N[0]? = some ("self" : Str)) (n2 : X.N[2]? = some ("blocks" : Str)) (n4 : X.N[4]? = some ("found" : Str)) (n5 : X.N[5]? = some ("block" : Str))
    (v0 : X.env.scope.names.lookup ("self" : Str) = some .local) (v2 : X.env.scope.names.lookup ("blocks" : Str) = some .local) (v4 : X.env.scope.names.lookup ("found" : Str) = some .local) (v5 : X.env.scope.names.lookup ("block" : Str) = some .local) (gt : Gl X "tuple")
    (h1 : swapsWith (.List [.Name "self" p2] p3) (some (.Name "found" p1)) p4.line X.env = pure false := by rfl)
    (h2 : swapsWith (.Call (.Attribute (.Name "found" q3) "extend" q4) [.Attribute (.Name "block" q5) "nodes" q6] [] q7) none q8.line X.env = pure false := by rfl)
    (h3 : swapsWith (.Call (.Name "tuple" r3) [.Name "found" r4] [] r5) (some (.Attribute (.Name "self" r1) "nodes" r2)) r6.line X.env = pure false := by rfl)
    (hl : (q4.endLine == q7.line) = true := by rfl) (hs : ∀ x, foldedSetIterable (.Name "blocks" q2) X.env x = pure x := by intro _; rfl)
    (hb1 : attributeBase (.Name "found" q3) "extend" X.env (eval (.Name "found" q3) X.env) = eval (.Name "found" q3) X.env := by rfl)
    (hb2 : attributeBase (.Name "block" q5) "nodes" X.env (eval (.Name "block" q5) X.env) = eval (.Name "block" q5) X.env := by rfl) :
    SXs ⟨X.K, cl⟩ X Wx B [.Assign [.Name "found" p1] (.List [.Name "self" p2] p3) p4, .For (.Name "block" q1) (.Name "blocks" q2) [.Expr (.Call (.Attribute (.Name "found" q3) "extend" q4) [.Attribute (.Name "block" q5) "nodes" q6] [] q7) q8] [] q9,
      .Assign [.Attribute (.Name "self" r1) "nodes" r2] (.Call (.Name "tuple" r3) [.Name "found" r4] [] r5) r6] (sTree At) := by
  have e0 : ∀ {p : Pos}, PE X (.Name "self" p) (tVar 0) := pe_var n0 (.inl v0)
  have e2 : ∀ {p : Pos}, PE X (.Name "blocks" p) (tVar 2) := pe_var n2 (.inl v2)
  have e4 : ∀ {p : Pos}, PE X (.Name "found" p) (tVar 4) := pe_var n4 (.inl v4)
  have e5 : ∀ {p : Pos}, PE X (.Name "block" p) (tVar 5) := pe_var n5 (.inl v5)
  refine PSs.weak (pss_cons (ps_set x.nd n4 (.inl v4) (pe_lst (pa_cons e0 pa_nil)) h1 (.inr v4)) (pss_cons (ps_for x.po x.calm (pi_tup e2) (pg_name x.nd n5 (.inl v5) (.inr v5)) (pss_one (ps_expr (pe_bm PySem.F.plainAttrs_list PySem.F.slot_list_extend PySem.F.type_list_extend mt_extT e4 (pa_cons (pe_fld e5 hb2) pa_nil) hb1 (by rfl) hl) h2)) hs)
    (pss_one (ps_fld e0 (pe_callTy call_tuple_of gt hm (by kernel_rfl) (pa_cons e4 pa_nil)) h3)))) fun D σ H ⟨F, ρ, m, τ, fr, p⟩ => ?_
  unfold sTree at p
  split at p
  rotate_left
  · exact p.elim
  rename_i C ns vs kids w0 w2
  split at p
  rotate_left
  · exact p.elim
  rename_i hc
  simp only [Bool.and_eq_true, decide_eq_true_eq, Bool.not_eq_true'] at hc
  obtain ⟨⟨⟨⟨⟨c1, c2⟩, c3⟩, c4⟩, c5⟩, c6⟩ := hc
  obtain ⟨a, h, s0, f1, f2, f3, f4⟩ := fr.s.own 0 _ w0
  obtain ⟨dx, gs, rfl, rfl, t⟩ := f4
  obtain ⟨vb, s2, rb⟩ := fr.s.val 2 _ w2
  unfold RW at rb
  obtain ⟨tb, us, rfl, sq, tu⟩ := rb
  obtain ⟨k1, k2⟩ := hasA_ok hA c2
  have hσ : 5 < σ.length := by rw [← fr.s.len]; exact c6
  have sz : 1 ≤ sizeLine := by rw [sizeLine_eq]; omega
  refine ⟨.ref a, s0, sz, fun b nb => ?_⟩
  have nba : b ≠ a := fun z => by rw [z, f3] at nb; cases nb
  have sub1 : ∀ {r : List V}, Same F (upd H b (.lst (.ref a :: r))) := fr.r.sub.trans (upd_new nb)
  refine ⟨.ref tb, by rw [List.getElem?_set_ne (by decide)]; exact s2, tb, rfl, ⟨us, sqT_mono sub1 sq⟩, fun i n σ' H' => n = kids.length - i ∧ i ≤ kids.length ∧ ∃ r, NRs ⟨X.K, cl⟩ F ρ (kids.take i) r ∧ H' = upd H b (.lst (.ref a :: r)) ∧ σ'.length = σ.length ∧ σ'[4]? = some (some (V.ref b)) ∧ ∀ j, j ≠ 4 → j ≠ 5 → σ'[j]? = σ[j]?,
    ⟨kids.length, rfl, Nat.zero_le _, [], (by rw [List.take_zero]; unfold NRs; rfl), rfl, by rw [List.length_set], set_get (by omega), fun j h4 h5 => List.getElem?_set_ne (Ne.symm h4)⟩, ?_⟩
  rintro i n σ1 H1 ⟨rfl, hi, r, nr, rfl, l1, s4, so⟩
  have hus := tu.length
  by_cases hlt : i < kids.length
  · refine .inr ⟨⟨us, us[i]'(by omega), sqT_mono sub1 sq, by simp⟩, fun σ' H' => ∃ r, NRs ⟨X.K, cl⟩ F ρ (kids.take (i + 1)) r ∧ H' = upd H b (.lst (.ref a :: r)) ∧ σ'.length = σ.length ∧ σ'[4]? = some (some (V.ref b)) ∧ ∀ j, j ≠ 4 → j ≠ 5 → σ'[j]? = σ[j]?,
      fun σ' H' h => ⟨kids.length - (i + 1), by omega, rfl, hlt, h⟩, fun v H2 y => ?_⟩
    obtain ⟨rfl, y⟩ := y
    obtain ⟨v', g1, g2⟩ := tu.get (i := i) (w := kids[i]) (by simp)
    have g3 := y us (sqT_mono sub1 sq)
    rw [g1] at g3
    cases g3
    have ht := List.all_eq_true.mp c1 kids[i] (List.getElem_mem hlt)
    cases ek : kids[i] with
    | tree C' ns' vs' kids' =>
      rw [ek] at g2 ht
      obtain ⟨j1, j2⟩ := hasA_ok hA (show hasA At C' "nodes" = true from ht)
      have g20 := g2
      unfold RW at g2
      obtain ⟨ab, dxb, gb, tt, rr, rfl, b1, b2, b3, b4, b5, b6⟩ := g2
      have tk : kids.take (i + 1) = kids.take i ++ [.tree C' ns' vs' kids'] := by rw [List.take_succ_eq_append_getElem hlt, ek]
      have nr2 := NRs.snoc g20 b6 nr
      rw [← tk] at nr2
      have len2 := (NRs.all nr2).length
      have len3 := nodesL_take kids (i + 1)
      refine ⟨.ref b, by rw [List.getElem?_set_ne (by decide)]; exact s4, .inl ⟨rfl, _, .of upd_same⟩, .ref ab, set_get (by omega), ab, _, dxb, gb, .ref tt, rfl, sub1 _ _ b1, j1, j2, b4, ?_⟩
      refine ⟨b, tt, .ref a :: r, .ref ab :: rr, rfl, rfl, upd_same, sqT_mono sub1 b5, ?_, r ++ (.ref ab :: rr), nr2, ?_, by rw [List.length_set, l1], by rw [List.getElem?_set_ne (by decide)]; exact s4, fun j h4 h5 => by rw [List.getElem?_set_ne (Ne.symm h5)]; exact so j h4 h5⟩
      · rw [List.length_append] at len2
        rw [List.length_cons]
        omega
      · rw [upd_upd]
        rfl
    | _ =>
      rw [ek] at ht
      cases ht
  · have ei : i = kids.length := by omega
    subst ei
    rw [List.take_length] at nr
    refine .inl ⟨⟨us, sqT_mono sub1 sq, by omega⟩, ?_⟩
    refine ⟨.ref b, s4, b, .ref a :: r, rfl, .inl ⟨.of upd_same, fun l nl => ?_⟩⟩
    have nlb : l ≠ b := fun z => by rw [z, upd_same] at nl; cases nl
    have nl0 : H l = none := by rw [upd_ne nlb] at nl; exact nl
    have nla : l ≠ a := fun z => by rw [z, f3] at nl0; cases nl0
    refine ⟨.ref a, by rw [so 0 (by decide) (by decide)]; exact s0, a, cl C, dx, gs, rfl, by rw [upd_ne (Ne.symm nla), upd_ne (Ne.symm nba)]; exact f3, k1, k2, by simpa using c3, ?_⟩
    obtain ⟨r1, g1⟩ := fr.r.newH nb (.lst (.ref a :: r))
    have fr1 := fr.go r1 g1
    obtain ⟨r2, g2⟩ := fr1.r.new nl (.tup (.ref a :: r))
    have fr2 := fr1.go r2 g2
    have fs : Same F (upd F l (.tup (.ref a :: r))) := g2.ff
    have fr3 : Fr ⟨X.K, cl⟩ B (upd F l (.tup (.ref a :: r))) ρ m ((τ.set 4 .un).set 5 .un) σ1 (upd (upd H b (.lst (.ref a :: r))) l (.tup (.ref a :: r))) := by
      refine fr2.slots (by rw [List.length_set, List.length_set, l1, fr.s.len]) (fun j w e => ?_) fun j o e => ?_
      · rcases get_set e with ⟨_, e⟩ | ⟨n5, e⟩
        · cases e
        · rcases get_set e with ⟨_, e⟩ | ⟨n4, e⟩
          · cases e
          · exact ⟨e, so j (Ne.symm n4) (Ne.symm n5)⟩
      · rcases get_set e with ⟨_, e⟩ | ⟨n5, e⟩
        · cases e
        · rcases get_set e with ⟨_, e⟩ | ⟨n4, e⟩
          · cases e
          · exact ⟨e, so j (Ne.symm n4) (Ne.symm n5)⟩
    have hno : ("nodes" : Str) ∉ gs.map (·.1) := fun z => by
      have := List.contains_iff_mem.mpr z
      rw [c4] at this
      cases this
    refine p σ1 _ _ _ (fr3.upd_own (o := .ins C (gs.map (·.1)) vs) (i := 0) (by rw [List.getElem?_set_ne (by decide), List.getElem?_set_ne (by decide)]; exact w0) (by rw [so 0 (by decide) (by decide)]; exact s0) ?_)
    refine ⟨dx, _, l, r, rfl, ?_, ?_, by rw [lookup_putF, if_pos rfl], .inl (.of upd_same), NRs.mono fs (.refl _) _ _ nr⟩
    · rw [offN_keys, putF_new hno, List.map_append]
      rfl
    · rw [putF_new hno]
      have eo : offN (gs ++ [(("nodes" : Str), V.ref l)]) = gs ++ [(("nodes" : Str), V.non)] := by
        unfold offN
        rw [List.map_append]
        have := offN_none hno
        unfold offN at this
        rw [this]
        rfl
      rw [eo, List.map_append]
      exact (t.mono fs (.refl _)).append (.cons rfl .nil)
end
end Sm

/-! S22: isinstance; all, any; names of the module; what is not reached. -/
namespace Sm
open PySem PySem.Spec PyProof.Rows L2

/-! ### what is never reached is worth nothing -/
theorem x_bad {c : Cn} {X : Cx} {Wx : WX} {B : Bs} {st : Stmt} : SX c X Wx B st (fun _ _ => .bad) := ⟨fun pins s σ H D I ⟨_, _, _, _, _, p⟩ => p.elim⟩
theorem x_bads {c : Cn} {X : Cx} {Wx : WX} {B : Bs} {st : List Stmt} : SXs c X Wx B st (fun _ _ => .bad) := ⟨fun pins s σ H D I ⟨_, _, _, _, _, p⟩ => p.elim⟩
theorem s_bad {c : Cn} {X : Cx} {Wx : WX} {e : Expr} : SE c X Wx e (fun _ _ => .bad) := ⟨fun pins s σ H D I ⟨_, _, _, _, _, _, p⟩ => p.elim⟩

/-! ### names of the module -/
section
variable {c : Cn} {X : Cx} {Wx : WX} {x : Str} {pos : Pos}
/-- a built-in type -/
theorem s_ty {n : String} (hm : X.mg x = none) (hv : bootBuiltins x = some (.type n)) (hg : Gl X x := by rfl) (hn : x ≠ "__name__" := by decide) (hd : (x == ("__debug__" : Str)) = false := by decide) : SE c X Wx (.Name x pos) (eC (.ty n)) := const (pe_bltn (v := .ty n) hg hm hv rfl hn hd) fun _ _ => rfl
/-- a class -/
theorem s_cls {C : Str} (hm : X.mg x = some (.ref (c.cl C))) (hg : Gl X x := by rfl) (hd : (x == ("__debug__" : Str)) = false := by decide) : SE c X Wx (.Name x pos) (eC (.cls C)) := const (pe_glob (v := .ref (c.cl C)) hg hm rfl hd) fun _ _ => rfl
/-- a text of the module -/
theorem s_gstr {z : Str} {tk : Tok} (hm : X.mg x = some (.str z tk)) (hg : Gl X x := by rfl) (hd : (x == ("__debug__" : Str)) = false := by decide) : SE c X Wx (.Name x pos) (eC (.str z)) := const (pe_glob (v := .str z) hg hm ⟨tk, rfl⟩ hd) fun _ _ => rfl
end

/-! ### isinstance -/
inductive Ty where
  | b (n : String) | c (C : Str)
deriving DecidableEq
def tyV (cl : Str → Addr) : Ty → Value
  | .b n => .type n
  | .c C => .ref (cl C)
/-- what isinstance says of a type and a class -/
abbrev Kt := List ((Ty × Ty) × Bool)
def KtOk (K : PySem.W.Frag) (cl : Str → Addr) (T : Kt) : Prop := ∀ p ∈ T, PySem.W.kitOne K (tyV cl p.1.1) (tyV cl p.1.2) = some p.2
def ktB (T : Kt) (a b : Ty) : Option Bool := (T.find? fun p => decide (p.1 = (a, b))).map (·.2)
theorem ktB_ok {K : PySem.W.Frag} {cl : Str → Addr} {T : Kt} {a b : Ty} {r : Bool} (h : KtOk K cl T) (e : ktB T a b = some r) : PySem.W.kitOne K (tyV cl a) (tyV cl b) = some r := by
  unfold ktB at e
  cases q : T.find? fun p => decide (p.1 = (a, b)) with
  | none =>
    rw [q] at e
    cases e
  | some p =>
    rw [q] at e
    cases e
    have h1 := h p (List.mem_of_find?_eq_some q)
    have h2 := List.find?_some q
    have h3 : p.1 = (a, b) := by simpa using h2
    rw [h3] at h1
    exact h1
/-- the own classes whose instances may be asked -/
structure TyC (K : PySem.W.Frag) (C : Addr) : Prop where
  cls : Cls K C
  ha : PySem.W.findIn K (.ref C) "__class__" = some (some (.builtin "object.__class__"))
  hn : PySem.W.specialIn K (.builtin "object.__class__") "__get__" = some (some (.builtin "getset_descriptor.__get__"))
  htk : PySem.W.takesIn K (.builtin "object.__class__") = some true
  hm : PySem.W.mroIn K C (.type "object") = some true
def TcOk (K : PySem.W.Frag) (cl : Str → Addr) (L : List Str) : Prop := ∀ C ∈ L, TyC K (cl C)
def tyW (L : List Str) : W → Sto → Option Ty
  | .non, _ => some (.b "NoneType")
  | .bl _, _ => some (.b "bool")
  | .int _, _ => some (.b "int")
  | .str _, _ => some (.b "str")
  | .tup _, _ => some (.b "tuple")
  | .lst _, _ => some (.b "list")
  | .obj C _ _, _ => if L.contains C then some (.c C) else none
  | .tree C _ _ _, _ => if L.contains C then some (.c C) else none
  | .ref i, m => match m[i]? with
    | some (.lst _) => some (.b "list")
    | some (.ins C _ _) => if L.contains C then some (.c C) else none
    | _ => none
  | _, _ => none
section
variable {cl : Str → Addr} {X : Cx} {L : List Str} {T : Kt} {F : Hp} {ρ : List Addr} {m : Sto} {H : Hp}
theorem tyW_ok {w : W} {v : V} {t : Ty} (hL : TcOk X.K cl L) (r : R ⟨X.K, cl⟩ F ρ m H) (q : RB ⟨X.K, cl⟩ F ρ H w v) (e : tyW L w m = some t) : TyX X.K H v (tyV cl t) := by
  have own : ∀ {C : Str} {a dx : Addr} {gs : List (Str × V)} {t : Ty}, H a = some (.ins (cl C) dx gs) → (if L.contains C then some (Ty.c C) else none) = some t → TyX X.K H (.ref a) (tyV cl t) := fun {C a dx gs t} h e => by
    split at e
    · rename_i hc
      cases e
      have k := hL C (List.contains_iff_mem.mp hc)
      exact .base (.ins h k.cls k.ha k.hn k.htk k.hm)
    · cases e
  cases w with
  | non =>
    cases e
    rw [q.non]
    exact .base .non
  | bl _ =>
    cases e
    rw [q.bl]
    exact .base (.bl _)
  | int _ =>
    cases e
    rw [q.int]
    exact .base (.int _)
  | str _ =>
    cases e
    rw [q.str]
    exact .base (.str _)
  | tup _ =>
    cases e
    obtain ⟨a, vs, rfl, h1, _⟩ := q.tup r
    rcases h1 with (h1 | ⟨o, h1⟩) | ⟨o, its, n, h1, h2, _⟩
    · exact .base (.tup h1)
    · exact .fTuple h1
    · exact .kTuple h1 h2
  | lst _ =>
    cases e
    obtain ⟨a, vs, rfl, h1, _⟩ := q.lst r
    rcases h1 with h1 | ⟨o, h1⟩
    · exact .base (.lst h1)
    · exact .base (.frz h1)
  | obj C ns vs =>
    rcases q with q | ⟨a, h, o, rfl, h2, h3, h4, h5, h6⟩
    · unfold RW at q
      obtain ⟨a, dx, gs, rfl, h1, _⟩ := q
      exact own (r.sub _ _ h1) e
    · cases o with
      | ins C' ns' vs' =>
        cases h2
        obtain ⟨dx, gs, rfl, _⟩ := h6
        exact own h3 e
      | _ => cases h2
  | tree C ns vs kids =>
    rcases q with q | ⟨a, h, o, rfl, h2, h3, h4, h5, h6⟩
    · unfold RW at q
      obtain ⟨a, dx, gs, t, rr, rfl, h1, _⟩ := q
      exact own (r.sub _ _ h1) e
    · cases o with
      | tin C' ns' vs' kids' =>
        cases h2
        obtain ⟨dx, gs, t, rr, rfl, _⟩ := h6
        exact own h3 e
      | _ => cases h2
  | ref i =>
    obtain ⟨a, rfl, h1⟩ := q.ref
    have e' : (match m[i]? with
      | some (.lst _) => some (Ty.b "list")
      | some (.ins C _ _) => if L.contains C then some (.c C) else none
      | _ => none) = some t := e
    split at e'
    · rename_i xs h2
      cases e'
      obtain ⟨vs, h3, _⟩ := r.lst h1 h2
      exact .base (.lst h3)
    · rename_i C ns vs h2
      obtain ⟨h, k1, dx, gs, rfl, _⟩ := r.at_ i a _ h1 h2
      exact own k1 e'
    · cases e'
  | dct _ _ => cases e
  | ty _ => cases e
  | cls _ => cases e
def clsT : W → Option Ty
  | .ty n => some (.b n)
  | .cls C => some (.c C)
  | _ => none
def isiAny (T : Kt) (t : Ty) : List W → Option Bool
  | [] => some false
  | w :: r => match clsT w with
    | some u => (match ktB T t u with
      | some true => some true
      | some false => isiAny T t r
      | none => none)
    | none => none
/-- the classes are well formed all through -/
def clsTs : List W → Option (List Ty)
  | [] => some []
  | w :: r => match clsT w, clsTs r with
    | some t, some ts => some (t :: ts)
    | _, _ => none
def isiW (L : List Str) (T : Kt) : List W → Sto → Option W
  | [x, .tup cs], m => (match tyW L x m, clsTs cs with
    | some t, some _ => (isiAny T t cs).map .bl
    | _, _ => none)
  | [x, c], m => (match tyW L x m, clsT c with
    | some t, some u => (ktB T t u).map .bl
    | _, _ => none)
  | _, _ => none
theorem clsT_ok {w : W} {v : V} {u : Ty} (q : RW ⟨X.K, cl⟩ F ρ w v) (e : clsT w = some u) : ClsV v (tyV cl u) := by
  cases w with
  | ty n =>
    cases e
    have : v = .ty n := q
    rw [this]
    exact .ty n
  | cls C =>
    cases e
    have : v = .ref (cl C) := q
    rw [this]
    exact .own _
  | _ => cases e
theorem isiAny_ok (hT : KtOk X.K cl T) {t : Ty} : ∀ {cs : List W} {vs : List V} {ts : List Ty} {b : Bool}, RWs ⟨X.K, cl⟩ F ρ cs vs → clsTs cs = some ts → isiAny T t cs = some b → Paired ClsV vs (ts.map (tyV cl)) ∧ PySem.W.kitAny X.K (tyV cl t) (ts.map (tyV cl)) = some b
  | [], vs, ts, b, h, e1, e2 => by
    have e : vs = [] := h
    subst e
    cases e1
    cases e2
    exact ⟨.nil, kitAny_nil⟩
  | w :: cs, vs, ts, b, h, e1, e2 => by
    obtain ⟨v, r, rfl, h1, tl⟩ := h.inv
    unfold clsTs at e1
    unfold isiAny at e2
    cases k1 : clsT w with
    | none =>
      rw [k1] at e1
      cases e1
    | some u =>
      rw [k1] at e1 e2
      cases k2 : clsTs cs with
      | none =>
        rw [k2] at e1
        cases e1
      | some us =>
        rw [k2] at e1
        cases e1
        dsimp only at e2
        have pw : ∀ {cs : List W} {r : List V} {us : List Ty}, RWs ⟨X.K, cl⟩ F ρ cs r → clsTs cs = some us → Paired ClsV r (us.map (tyV cl)) := by
          intro cs
          induction cs with
          | nil =>
            intro r us h e
            have e0 : r = [] := h
            subst e0
            cases e
            exact .nil
          | cons w cs ih =>
            intro r us h e
            obtain ⟨v, r, rfl, h1, tl⟩ := h.inv
            unfold clsTs at e
            cases k1 : clsT w with
            | none =>
              rw [k1] at e
              cases e
            | some u =>
              cases k2 : clsTs cs with
              | none =>
                rw [k1, k2] at e
                cases e
              | some us =>
                rw [k1, k2] at e
                cases e
                exact .cons (clsT_ok h1 k1) (ih tl k2)
        refine ⟨.cons (clsT_ok h1 k1) (pw tl k2), ?_⟩
        cases k3 : ktB T t u with
        | none =>
          rw [k3] at e2
          cases e2
        | some x =>
          rw [k3] at e2
          cases x with
          | true =>
            cases e2
            exact kitAny_cons (ktB_ok hT k3) (fun z => nomatch z) fun _ => rfl
          | false => exact kitAny_cons (ktB_ok hT k3) (fun _ => (isiAny_ok hT tl k2 e2).2) fun z => nomatch z
/-- isinstance(x, (c1, ..)), the tuple frozen or not -/
theorem call_isiS : CallR X (.builtin "isinstance") (fun xs H Q => ∃ (x : V) (tp : Addr) (cs : List V) (t : Value) (us : List Value) (b : Bool), xs = [x, .ref tp] ∧ SqT X.K H tp cs ∧ Paired ClsV cs us ∧ TyX X.K H x t ∧ PySem.W.kitAny X.K t us = some b ∧ Q (.bl b) H) := by
  intro pins s σ H xs us Q I r h
  obtain ⟨x, tp, cs, t, ws, b, rfl, hT, k, ty, e, q⟩ := h
  obtain ⟨u1, u2, rfl, r1, r2⟩ := vals2 r
  cases (show u2 = Value.ref tp from r2)
  obtain ⟨P, Z, p, hx⟩ := kit_of I r1 ty
  obtain ⟨its, rv, ⟨o, h1, h2, n, h3⟩, _⟩ := I.tuple hT
  have e3 := ClsV.all k rv
  subst e3
  obtain ⟨oc, od, dt, sl⟩ := o
  simp only at h2 h3
  subst h2 h3
  exact PySem.W.kia_tup Z I.kIn p h1 e hx fun tk => ⟨.bl b, H, I.tok tk, rfl, q⟩
theorem c_isi (hL : TcOk X.K cl L) (hT : KtOk X.K cl T) : CallR X (.builtin "isinstance") (rC ⟨X.K, cl⟩ (isiW L T)) := by
  intro pins s σ H xs us Q I rv h
  obtain ⟨F, ρ, m, ws, w, r, q, e, k⟩ := h
  unfold isiW at e
  split at e
  · obtain ⟨v, u, rfl, q1, q2⟩ := q.two
    split at e
    · rename_i t ts h1 h2
      obtain ⟨b, e1, rfl⟩ := Option.map_eq_some_iff.mp e
      obtain ⟨a, vs, rfl, h3, tl⟩ := q2.tup r
      obtain ⟨k1, k2⟩ := isiAny_ok hT tl h2 e1
      exact call_isiS pins s σ H _ us Q I rv ⟨v, a, vs, _, _, b, rfl, h3, k1, tyW_ok hL r q1 h1, k2, k _ F ρ H r .refl rfl⟩
    · cases e
  · obtain ⟨v, u, rfl, q1, q2⟩ := q.two
    split at e
    · rename_i t tu h1 h2
      obtain ⟨b, e1, rfl⟩ := Option.map_eq_some_iff.mp e
      have q3 : RW ⟨X.K, cl⟩ F ρ _ u := q2.scal fun o eo => by
        rw [eo] at h2
        cases o <;> cases h2
      exact call_isi pins s σ H _ us Q I rv ⟨v, u, _, _, b, rfl, clsT_ok q3 h2, tyW_ok hL r q1 h1, ktB_ok hT e1, k _ F ρ H r .refl rfl⟩
    · cases e
  · cases e

/-! ### all, any -/
def blsOf : List W → Option (List Bool)
  | [] => some []
  | .bl b :: r => (blsOf r).map (b :: ·)
  | _ => none
theorem blsOf_ok {c : Cn} : ∀ {ws : List W} {vs : List V} {bs : List Bool}, RWs c F ρ ws vs → blsOf ws = some bs → vs = bs.map V.bl
  | [], vs, bs, h, e => by
    cases e
    exact h
  | w :: ws, vs, bs, h, e => by
    obtain ⟨v, r, rfl, h1, t⟩ := h.inv
    cases w with
    | bl b =>
      have e' : (blsOf ws).map (b :: ·) = some bs := e
      obtain ⟨bs', e1, rfl⟩ := Option.map_eq_some_iff.mp e'
      rw [blsOf_ok t e1, show v = .bl b from h1]
      rfl
    | _ => cases e
def allW : List W → Sto → Option W
  | [.lst xs], _ => (blsOf xs).map fun bs => .bl (bs.all id)
  | _, _ => none
def anyW : List W → Sto → Option W
  | [.lst xs], _ => (blsOf xs).map fun bs => .bl (bs.any id)
  | _, _ => none
theorem c_all (hc : X.calm = true) : CallR X (.builtin "all") (rC ⟨X.K, cl⟩ allW) := by
  intro pins s σ H xs us Q I rv h
  obtain ⟨F, ρ, m, ws, w, r, q, e, k⟩ := h
  unfold allW at e
  split at e
  · obtain ⟨v, rfl, q1⟩ := q.one
    obtain ⟨bs, e1, rfl⟩ := Option.map_eq_some_iff.mp e
    obtain ⟨a, vs, rfl, h1, t⟩ := q1.lst r
    rw [blsOf_ok t e1] at h1
    exact cr_all hc pins s σ H _ us Q I rv ⟨a, bs, rfl, .inl h1, k _ F ρ H r .refl rfl⟩
  · cases e
theorem c_any (hc : X.calm = true) : CallR X (.builtin "any") (rC ⟨X.K, cl⟩ anyW) := by
  intro pins s σ H xs us Q I rv h
  obtain ⟨F, ρ, m, ws, w, r, q, e, k⟩ := h
  unfold anyW at e
  split at e
  · obtain ⟨v, rfl, q1⟩ := q.one
    obtain ⟨bs, e1, rfl⟩ := Option.map_eq_some_iff.mp e
    obtain ⟨a, vs, rfl, h1, t⟩ := q1.lst r
    rw [blsOf_ok t e1] at h1
    exact cr_any hc pins s σ H _ us Q I rv ⟨a, bs, rfl, .inl h1, k _ F ρ H r .refl rfl⟩
  · cases e
end
end Sm

/-! S23: starred items, f-strings, join. -/
namespace Sm
open PySem PySem.Spec PyProof.Rows L2

/-- the items of a list or a tuple -/
def seqW : W → Sto → Option (List W)
  | .tup xs, _ => some xs
  | .lst xs, _ => some xs
  | .ref i, m => match m[i]? with
    | some (.lst xs) => some xs
    | _ => none
  | _, _ => none
theorem seqW_ok {cl : Str → Addr} {K : PySem.W.Frag} {F : Hp} {ρ : List Addr} {m : Sto} {H : Hp} {w : W} {v : V} {xs : List W} (r : R ⟨K, cl⟩ F ρ m H) (q : RB ⟨K, cl⟩ F ρ H w v) (e : seqW w m = some xs) : ∃ p vs, v = .ref p ∧ (SqT K H p vs ∨ SqL K H p vs) ∧ RWs ⟨K, cl⟩ F ρ xs vs := by
  cases w with
  | tup ys =>
    cases e
    obtain ⟨a, vs, rfl, h1, t⟩ := q.tup r
    exact ⟨a, vs, rfl, .inl h1, t⟩
  | lst ys =>
    cases e
    obtain ⟨a, vs, rfl, h1, t⟩ := q.lst r
    exact ⟨a, vs, rfl, .inr (.inl h1), t⟩
  | ref i =>
    obtain ⟨a, rfl, h1⟩ := q.ref
    have e' : (match m[i]? with
      | some (.lst xs) => some xs
      | _ => none) = some xs := e
    split at e'
    · rename_i ys h2
      cases e'
      obtain ⟨vs, h3, t⟩ := r.lst h1 h2
      exact ⟨a, vs, rfl, .inr (.of h3), t⟩
    · cases e'
  | _ => cases e
def aStar (f : Fe) (g : Fas) : Fas := fun τ => bnd (f τ) fun w m => match seqW w m with
  | some xs => bnd (g τ) (fun ws m => .ok (xs ++ ws) m) m
  | none => .bad
section
variable {cl : Str → Addr} {X : Cx} {Wx : WX} {e o : Expr} {es : List Expr} {f fo : Fe} {g : Fas} {pos apos p : Pos}
theorem a_star (he : SR ⟨X.K, cl⟩ X Wx e f) (hs : SA ⟨X.K, cl⟩ X Wx es g) (hst : starEach (.Starred e p :: es) X.env = (true, eval e X.env) :: starEach es X.env := by rfl) : SA ⟨X.K, cl⟩ X Wx (.Starred e p :: es) (aStar f g) :=
  PA.weak (StX.pa_star he hs hst) fun σ H Q ⟨F, ρ, m, τ, r, s, p⟩ => by
    refine ⟨F, ρ, m, τ, r, s, ?_⟩
    unfold aStar bnd at p
    cases e : f τ m with
    | bad =>
      rw [e] at p
      exact p
    | exc x m' =>
      rw [e] at p
      exact p
    | ok w m1 =>
      rw [e] at p
      dsimp only at p
      intro v F1 ρ1 H1 r1 g1 q1
      cases e3 : seqW w m1 with
      | none =>
        rw [e3] at p
        exact p.elim
      | some xs =>
        rw [e3] at p
        dsimp only at p
        obtain ⟨b, vs, rfl, h1, t⟩ := seqW_ok r1 q1 e3
        refine ⟨b, vs, rfl, h1, F1, ρ1, m1, τ, r1, s.go g1, ?_⟩
        cases e2 : g τ m1 with
        | bad =>
          rw [e2] at p
          exact p
        | exc x m' =>
          rw [e2] at p
          exact OkX.back r1 g1 p
        | ok ws m2 =>
          rw [e2] at p
          exact fun us F2 ρ2 H2 r2 g2 q2 => p (vs ++ us) F2 ρ2 H2 r2 (g1.trans g2) ((t.mono g2.ff g2.pre).append q2)

/-! ### f-strings -/
def fmtW : W → Sto → Option W
  | .str y, _ => if y.length ≤ sizeLine then some (.str y) else none
  | .int i, _ => if i.natAbs.log2 < 1920 then some (.str (toString i)) else none
  | _, _ => none
theorem s_fmt {c : Cn} (he : SR c X Wx e f) : SE c X Wx (.FormattedValue e (-1) none pos) (op1 fmtW f) := PE.weak (pe_fmt he) fun σ H Q h => w_op1R h fun F ρ m H1 w1 w x r q e k => by
  cases w1 with
  | str y =>
    have e' : (if y.length ≤ sizeLine then some (W.str y) else none) = some w := e
    split at e'
    · rename_i hz
      cases e'
      exact .inl ⟨y, q.str, hz, k _ F ρ H1 r .refl rfl⟩
    · cases e'
  | int i =>
    have e' : (if i.natAbs.log2 < 1920 then some (W.str (toString i)) else none) = some w := e
    split at e'
    · rename_i hz
      cases e'
      exact .inr ⟨i, q.int, hz, k _ F ρ H1 r .refl rfl⟩
    · cases e'
  | _ => cases e
def jsW : List Fe → Str → Fe
  | [], acc => fun _ m => .ok (.str acc) m
  | f :: fs, acc => fun τ => bnd (f τ) fun w => match w with
    | .str y => if (acc ++ y).length ≤ sizeLine then jsW fs (acc ++ y) τ else bad
    | _ => bad
/-- the pieces of an f-string -/
inductive SJ (c : Cn) (X : Cx) (Wx : WX) : List Expr → List Fe → Prop where
  | nil : SJ c X Wx [] []
  | cons {e : Expr} {f : Fe} {es : List Expr} {fs : List Fe} (h : SE c X Wx e f) (t : SJ c X Wx es fs) : SJ c X Wx (e :: es) (f :: fs)
theorem SJ.pj {c : Cn} : ∀ {es : List Expr} {fs : List Fe}, SJ c X Wx es fs → PJ X es (fs.map (sE c Wx))
  | _, _, .nil => .nil
  | _, _, .cons h t => .cons h t.pj
theorem w_js {c : Cn} {σ : L2.St} {Q : VK} : ∀ {fs : List Fe} {acc : Str} {H : Hp}, sE c Wx (jsW fs acc) σ H Q → tJs (fs.map (sE c Wx)) acc σ H fun out H1 => Q (.str out) H1
  | [], acc, H, ⟨F, ρ, m, τ, r, s, p⟩ => p _ F ρ H r .refl rfl
  | f :: fs, acc, H, ⟨F, ρ, m, τ, r, s, p⟩ => by
    refine ⟨F, ρ, m, τ, r, s, ?_⟩
    unfold jsW bnd at p
    cases e : f τ m with
    | bad =>
      rw [e] at p
      exact p
    | exc x m' =>
      rw [e] at p
      exact p
    | ok w m1 =>
      rw [e] at p
      dsimp only at p
      intro v F1 ρ1 H1 r1 g1 q1
      cases w with
      | str y =>
        dsimp only at p
        split at p
        · rename_i hz
          refine ⟨y, q1, hz, w_js ⟨F1, ρ1, m1, τ, r1, s.go g1, ?_⟩⟩
          cases e2 : jsW fs (acc ++ y) τ m1 with
          | bad =>
            rw [e2] at p
            exact p
          | exc x m' =>
            rw [e2] at p
            exact OkX.back r1 g1 p
          | ok w2 m2 =>
            rw [e2] at p
            exact OkE.back g1 p
        · exact p.elim
      | _ => exact p.elim
theorem s_js {c : Cn} {v1 v2 : Expr} {rest : List Expr} {fs : List Fe} (h : SJ c X Wx (v1 :: v2 :: rest) fs) : SE c X Wx (.JoinedStr (v1 :: v2 :: rest) pos) (jsW fs Str.empty) := PE.weak (pe_joined h.pj) fun _ _ _ q => w_js q
theorem s_js1 {c : Cn} (h : SE c X Wx e f) : SE c X Wx (.JoinedStr [e] pos) f := pe_joined1 h

/-! ### join -/
def strsOf : List W → Option (List Str)
  | [] => some []
  | .str b :: r => (strsOf r).map (b :: ·)
  | _ => none
theorem strsOf_ok {c : Cn} {F : Hp} {ρ : List Addr} : ∀ {ws : List W} {vs : List V} {bs : List Str}, RWs c F ρ ws vs → strsOf ws = some bs → vs = bs.map V.str
  | [], vs, bs, h, e => by
    cases e
    exact h
  | w :: ws, vs, bs, h, e => by
    obtain ⟨v, r, rfl, h1, t⟩ := h.inv
    cases w with
    | str b =>
      have e' : (strsOf ws).map (b :: ·) = some bs := e
      obtain ⟨bs', e1, rfl⟩ := Option.map_eq_some_iff.mp e'
      rw [strsOf_ok t e1, show v = .str b from h1]
      rfl
    | _ => cases e
def joinW (a : Str) (w : W) (m : Sto) : Option W := match seqW w m with
  | some xs => (match strsOf xs with
    | some ys => if (ys.map (·.length)).sum + ys.length * a.length ≤ 16777216 then some (.str (Txt.join a ys)) else none
    | none => none)
  | none => none
def eJoin (fo f : Fe) : Fe := fun τ => bnd (fo τ) fun x => match x with
  | .str a => bnd (f τ) fun y m => lift (joinW a y m) m
  | _ => bad
theorem s_join (ho : SE ⟨X.K, cl⟩ X Wx o fo) (he : SR ⟨X.K, cl⟩ X Wx e f) (hs : starEach [e] X.env = [(false, eval e X.env)] := by rfl) (hbase : attributeBase o "join" X.env (eval o X.env) = eval o X.env := by rfl) (hline : (apos.endLine == pos.line) = true := by rfl) :
    SE ⟨X.K, cl⟩ X Wx (.Call (.Attribute o "join" apos) [e] [] pos) (eJoin fo f) := PE.weak (pe_join ho he hs hbase hline) fun σ H Q ⟨F, ρ, m, τ, r, s, p⟩ => by
  refine ⟨F, ρ, m, τ, r, s, ?_⟩
  unfold eJoin bnd at p
  cases e : fo τ m with
  | bad =>
    rw [e] at p
    exact p
  | exc x m' =>
    rw [e] at p
    exact p
  | ok w1 m1 =>
    rw [e] at p
    dsimp only at p
    intro v F1 ρ1 H1 r1 g1 q1
    cases w1 with
    | str a =>
      dsimp only at p
      have ev : v = .str a := q1
      subst ev
      refine ⟨⟨a, rfl⟩, F1, ρ1, m1, τ, r1, s.go g1, ?_⟩
      cases e2 : f τ m1 with
      | bad =>
        rw [e2] at p
        exact p
      | exc x m' =>
        rw [e2] at p
        exact OkX.back r1 g1 p
      | ok w2 m2 =>
        rw [e2] at p
        dsimp only at p
        intro u F2 ρ2 H2 r2 g2 q2
        unfold joinW at p
        cases e3 : seqW w2 m2 with
        | none =>
          rw [e3] at p
          exact p.elim
        | some xs =>
          rw [e3] at p
          dsimp only at p
          cases e4 : strsOf xs with
          | none =>
            rw [e4] at p
            exact p.elim
          | some ys =>
            rw [e4] at p
            dsimp only at p
            obtain ⟨b, vs, rfl, h1, t⟩ := seqW_ok r2 q2 e3
            rw [strsOf_ok t e4] at h1
            split at p
            · rename_i hz
              exact ⟨a, b, ys, rfl, rfl, h1.symm, hz, p _ F2 ρ2 H2 r2 (g1.trans g2) rfl⟩
            · exact p.elim
    | _ => exact p.elim
end
end Sm

/-! S24: operators of own classes. -/
namespace Sm
open PySem PySem.Spec PySem.W PySem.Calls PyProof.Rows
section
variable {prog : Program} {w : World} {A : Around} {E : Value → Shared → Prop} {s : Shared} {K : Frag} {x C y D f g : Addr} {ox oy : Obj} {od oe : Option Obj} {nm : String} {rd : Option Value}
theorem bin2 {op : Operator} {Q : Value → Shared → Prop} (X : K.In s.heap) (I : InstAt s.heap x ox C od) (J : InstAt s.heap y oy D oe) (ne : D ≠ C) (hc : selfFirst K C = true) (hd : selfFirst K D = true)
    (hs : findIn K (.ref C) (PySem.dunder op.info.2) = some (some (.ref f))) (hf : isFn K (.ref f) = true) (hr : findIn K (.ref C) (dunderR op.info.2) = some none)
    (hs' : findIn K (.ref D) (PySem.dunder op.info.2) = some (some (.ref g))) (hr' : findIn K (.ref D) (dunderR op.info.2) = some none) (hsub : subIn K (.ref D) (.ref C) = some false)
    (h : wpAny (model prog w) A (call (.ref f) [.ref x, .ref y]) (PySem.W.CmpBack Q) E s) : wpAny (model prog w) A (binaryOp op (.ref x) (.ref y)) Q E s := by
  obtain ⟨cd, rest, hcd, hm⟩ := ksp_first hc
  obtain ⟨dd, rest', hdd, hm'⟩ := ksp_first hd
  rcases hi : op.info with ⟨sym, nm'⟩
  rw [hi] at hs hr hs' hr'
  dsimp only at hs hr hs' hr'
  have one := ksp_try X I hs hf h
  obtain ⟨hh, gg, d, tt, os⟩ := s
  have L1 : Looks (model prog w) hh (typeOf (.ref x)) (.ref C) := I.type
  have L2 : Looks (model prog w) hh (typeOf (.ref y)) (.ref D) := J.type
  have L3 : Looks (model prog w) hh (fillsNumberSlot (.ref C) nm') true := fills_K X hcd hm hs
  have L4 : Looks (model prog w) hh (fillsNumberSlot (.ref D) nm') true := fills_K X hdd hm' hs'
  have L5 : Looks (model prog w) hh (isSubtype (.ref D) (.ref C)) false := looks_subIn X hsub
  have L6 : Looks (model prog w) hh (numberSlotInPython (.ref C) nm') true := ksp_inPy X hs hr (.inl rfl)
  have L7 : Looks (model prog w) hh (numberSlotInPython (.ref D) nm') true := ksp_inPy X hs' hr' (.inl rfl)
  have hne : (Value.ref C == Value.ref D) = false := by simpa using fun e => ne e.symm
  simp only [binaryOp, hi]
  refine wpAny_holding (wpAny_bind ?_)
  unfold binaryOp1
  refine wpAny_bind (L1.at (wpAny_bind (L2.at (wpAny_bind (L3.at ?_)))))
  simp only [hne, Bool.false_eq_true, if_false]
  ksp_lk
  refine wpAny_mono one (fun r s' hr' => ?_) fun _ _ e => e
  obtain ⟨v, rfl, hq⟩ := hr'
  ksp_lk
  exact hq
end
end Sm

/-! S25: operators and methods of own classes, as rules. -/
namespace Sm
open PySem PySem.Spec PyProof.Rows L2

def clsW : W → Option Str
  | .obj C _ _ => some C
  | .tree C _ _ _ => some C
  | _ => none
/-- the method m of the class C is worth γ -/
structure CalM (P : Program) (w : World) (K : PySem.W.Frag) (mg : Str → Option Value) (base : Heap) (cl : Str → Addr) (k : Nat) (C m : Str) (n : Nat) (dws : List W) (γ : List W → M W) : Prop where
  ex : ∃ f fd ps ds dvs, FnOk P w K mg base (CX P w) k f fd ps (spF ⟨K, cl⟩ ps.length γ) ∧ ps.length = n ∧ Binds K fd ps ds ∧ Vals dvs ds ∧ (∀ F ρ, RWs ⟨K, cl⟩ F ρ dws dvs) ∧ PySem.W.findIn K (.ref (cl C)) m = some (some (.ref f)) ∧ PySem.W.isFn K (.ref f) = true ∧ PySem.W.keepIn K (.ref f) = true
section
variable {cl : Str → Addr} {X : Cx} {pins : List (Addr × Obj)} {σ : L2.St} {H : Hp} {s : Shared} {F : Hp} {ρ : List Addr} {m : Sto}
theorem inst_of {w : W} {v : V} {C : Str} (I : Inv X pins σ H s) (r : R ⟨X.K, cl⟩ F ρ m H) (q : RW ⟨X.K, cl⟩ F ρ w v) (e : clsW w = some C) : ∃ a ox od, v = .ref a ∧ PySem.W.InstAt s.heap a ox (cl C) (some od) := by
  have key : ∀ {a dx : Addr} {gs : List (Str × V)}, F a = some (.ins (cl C) dx gs) → ∃ ox od, PySem.W.InstAt s.heap a ox (cl C) (some od) := fun {a dx gs} h => by
    obtain ⟨mA, O, _⟩ := ins_get I.hok (r.sub _ _ h)
    obtain ⟨od, J, _⟩ := O.look
    exact ⟨_, od, J⟩
  cases w with
  | obj C' ns vs =>
    cases e
    unfold RW at q
    obtain ⟨a, dx, gs, rfl, h1, _⟩ := q
    obtain ⟨ox, od, J⟩ := key h1
    exact ⟨a, ox, od, rfl, J⟩
  | tree C' ns vs kids =>
    cases e
    unfold RW at q
    obtain ⟨a, dx, gs, t, rr, rfl, h1, _⟩ := q
    obtain ⟨ox, od, J⟩ := key h1
    exact ⟨a, ox, od, rfl, J⟩
  | _ => cases e
theorem cmpBack {Q : VK} {u : Value} {s' : Shared} (h : EP X pins σ Q u s') : PySem.W.CmpBack (EP X pins σ Q) u s' := by
  obtain ⟨v, H', I, rv, q⟩ := h
  cases u with
  | notImplemented => cases v <;> first | (obtain ⟨_, e⟩ := rv; cases e) | (have e : _ = _ := rv; cases e)
  | _ => exact ⟨v, H', I, rv, q⟩
/-- a call of a def of the text with values, told of results -/
theorem run_M {Wx : WX} {k : Nat} {f : Addr} {fd : FuncData} {ps : List Str} {ds : List Value} {dvs : List V} {dws : List W} {γ : List W → M W} {Q : VK} {us : List Value} {vs : List V} {ws : List W} (Fn : FnOk X.prog X.w X.K X.mg X.base (CX X.prog X.w) k f fd ps (spF ⟨X.K, cl⟩ ps.length γ)) (hr : Room k X.A) (hb : Binds X.K fd ps ds) (hd : Vals dvs ds)
    (hw : ∀ F ρ, RWs ⟨X.K, cl⟩ F ρ dws dvs) (tk : Takes X Wx) (I : Inv X pins σ H s) (rv : Vals vs us) (r : R ⟨X.K, cl⟩ F ρ m H) (q : RWs ⟨X.K, cl⟩ F ρ ws vs) (hl : (ws ++ dws).length = ps.length)
    (p : Post (OkE ⟨X.K, cl⟩ F ρ H Q) (OkX ⟨X.K, cl⟩ F ρ H fun k d H' => Wx k d σ H') (γ (ws ++ dws) m)) : wpAny (model X.prog X.w) X.A (call (.ref f) us) (EP X pins σ Q) X.xe s :=
  run_fnS Fn hr hb hd tk I rv ⟨by rw [(q.append (hw F ρ)).length]; exact hl, F, ρ, m, ws ++ dws, r, q.append (hw F ρ), p⟩
end

/-! ### a op b -/
structure OpT (K : PySem.W.Frag) (cl : Str → Addr) (nm : String) (T : List Str) : Prop where
  fst : ∀ C ∈ T, PySem.W.selfFirst K (cl C) = true
  refl : ∀ C ∈ T, PySem.W.findIn K (.ref (cl C)) (dunderR nm) = some none
  sub : ∀ C ∈ T, ∀ D ∈ T, cl D = cl C ∨ PySem.W.subIn K (.ref (cl D)) (.ref (cl C)) = some false
/-- .. with an int at the right -/
structure OpI (K : PySem.W.Frag) (cl : Str → Addr) (nm : String) (T : List Str) : Prop where
  int1 : ∃ fo, PySem.W.findIn K (.type "int") (PySem.dunder nm) = some fo
  int2 : ∃ ro, PySem.W.findIn K (.type "int") (dunderR nm) = some ro
  isub : ∀ C ∈ T, PySem.W.subIn K (.type "int") (.ref (cl C)) = some false
def opM (T : List Str) (Γ : Str → List W → M W) (x y : W) : M W := fun m => match clsW x, clsW y with
  | some C, some D => if T.contains C && T.contains D then Γ C [x, y] m else .bad
  | _, _ => .bad
def opMI (T : List Str) (Γ : Str → List W → M W) (x y : W) : M W := fun m => match clsW x, y with
  | some C, .int _ => if T.contains C then Γ C [x, y] m else .bad
  | _, _ => .bad
def e2M (g : W → W → M W) (fa fb : Fe) : Fe := fun τ => bnd (fa τ) fun x => bnd (fb τ) fun y => g x y
section
variable {cl : Str → Addr} {X : Cx} {Wx : WX} {a b : Expr} {fa fb : Fe} {pos : Pos} {k : Nat} {T : List Str} {Γ : Str → List W → M W}
def r2M (c : Cn) (Wx : WX) (σ : L2.St) (Q : VK) (g : W → W → M W) : V → V → Hp → Prop := fun x y H => ∃ F ρ m wx wy, R c F ρ m H ∧ RW c F ρ wx x ∧ RW c F ρ wy y ∧ Post (OkE c F ρ H Q) (OkX c F ρ H fun k d H' => Wx k d σ H') (g wx wy m)
theorem w_2M {c : Cn} {g : W → W → M W} {σ : L2.St} {H : Hp} {Q : VK} (h : sE c Wx (e2M g fa fb) σ H Q) : sE c Wx fa σ H fun x H1 => sE c Wx fb σ H1 fun y H2 => r2M c Wx σ Q g x y H2 := by
  obtain ⟨F, ρ, m, τ, r, s, p⟩ := h
  refine ⟨F, ρ, m, τ, r, s, ?_⟩
  unfold e2M bnd at p
  cases e : fa τ m with
  | bad =>
    rw [e] at p
    exact p
  | exc x m' =>
    rw [e] at p
    exact p
  | ok w1 m1 =>
    rw [e] at p
    dsimp only at p
    intro v F1 ρ1 H1 r1 g1 q1
    refine ⟨F1, ρ1, m1, τ, r1, s.go g1, ?_⟩
    cases e2 : fb τ m1 with
    | bad =>
      rw [e2] at p
      exact p
    | exc x m' =>
      rw [e2] at p
      exact OkX.back r1 g1 p
    | ok w2 m2 =>
      rw [e2] at p
      dsimp only at p
      intro u F2 ρ2 H2 r2 g2 q2
      refine ⟨F2, ρ2, m2, w1, w2, r2, q1.mono g2.ff g2.pre, q2, ?_⟩
      cases e3 : g w1 w2 m2 with
      | bad =>
        rw [e3] at p
        exact p
      | exc x m' =>
        rw [e3] at p
        exact OkX.back r2 (g1.trans g2) p
      | ok w m3 =>
        rw [e3] at p
        exact OkE.back (g1.trans g2) p
theorem s_binO {op : Operator} (hT : OpT X.K cl op.info.2 T) (hΓ : ∀ C ∈ T, CalM X.prog X.w X.K X.mg X.base cl k C (PySem.dunder op.info.2) 2 [] (Γ C)) (hr : Room k X.A) (tk : Takes X Wx) (ha : SE ⟨X.K, cl⟩ X Wx a fa) (hb : SE ⟨X.K, cl⟩ X Wx b fb) :
    SE ⟨X.K, cl⟩ X Wx (.BinOp a op b pos) (e2M (opM T Γ) fa fb) := by
  refine ⟨fun pins s σ H Q I h => wpAny_BinOp (binT ha hb I (w_2M h) fun v u s2 x y H2 I2 rx ry q => ?_)⟩
  obtain ⟨F, ρ, m, wx, wy, r, q1, q2, p⟩ := q
  unfold opM at p
  split at p
  · rename_i C D e1 e2
    split at p
    · rename_i hc
      obtain ⟨c1, c2⟩ := Bool.and_eq_true_iff.mp hc
      have c1' := List.contains_iff_mem.mp c1
      have c2' := List.contains_iff_mem.mp c2
      obtain ⟨ax, ox, od, rfl, J1⟩ := inst_of I2 r q1 e1
      obtain ⟨ay, oy, oe, rfl, J2⟩ := inst_of I2 r q2 e2
      cases rx
      cases ry
      obtain ⟨f, fd, ps, ds, dvs, Fn, hn, hbd, hd, hw, hs, hf, _⟩ := (hΓ C c1').ex
      obtain ⟨f', fd', ps', ds', dvs', Fn', _, _, _, _, hs', _, _⟩ := (hΓ D c2').ex
      have call := thn (run_M (us := [.ref ax, .ref ay]) (vs := [.ref ax, .ref ay]) Fn hr hbd hd hw tk I2 (.cons rfl (.cons rfl .nil)) r (.cons q1 (.cons q2 .nil)) (by rw [hn]; rfl) p) fun u s' z => cmpBack z
      rcases hT.sub C c1' D c2' with e | e
      · rw [e] at J2
        obtain ⟨fm, fr⟩ := I2.fr
        exact PySem.W.binop_K fr I2.mod.kin J1 J2.type (hT.fst C c1') hs hf call
      · by_cases ne : cl D = cl C
        · rw [ne] at J2
          obtain ⟨fm, fr⟩ := I2.fr
          exact PySem.W.binop_K fr I2.mod.kin J1 J2.type (hT.fst C c1') hs hf call
        · exact bin2 I2.kIn J1 J2 ne (hT.fst C c1') (hT.fst D c2') hs hf (hT.refl C c1') hs' (hT.refl D c2') e call
    · exact p.elim
  · exact p.elim
theorem s_binI {op : Operator} (hT : OpT X.K cl op.info.2 T) (hI : OpI X.K cl op.info.2 T) (hΓ : ∀ C ∈ T, CalM X.prog X.w X.K X.mg X.base cl k C (PySem.dunder op.info.2) 2 [] (Γ C)) (hr : Room k X.A) (tk : Takes X Wx) (ha : SE ⟨X.K, cl⟩ X Wx a fa) (hb : SE ⟨X.K, cl⟩ X Wx b fb) :
    SE ⟨X.K, cl⟩ X Wx (.BinOp a op b pos) (e2M (opMI T Γ) fa fb) := by
  refine ⟨fun pins s σ H Q I h => wpAny_BinOp (binT ha hb I (w_2M h) fun v u s2 x y H2 I2 rx ry q => ?_)⟩
  obtain ⟨F, ρ, m, wx, wy, r, q1, q2, p⟩ := q
  unfold opMI at p
  split at p
  · rename_i C i e1
    split at p
    · rename_i hc
      have c1' := List.contains_iff_mem.mp hc
      obtain ⟨ax, ox, od, rfl, J1⟩ := inst_of I2 r q1 e1
      have ey : y = .int i := q2
      subst ey
      cases rx
      obtain ⟨t, rfl⟩ := ry
      obtain ⟨f, fd, ps, ds, dvs, Fn, hn, hbd, hd, hw, hs, hf, _⟩ := (hΓ C c1').ex
      have call := thn (run_M (us := [.ref ax, .int i t]) (vs := [.ref ax, .int i]) Fn hr hbd hd hw tk I2 (.cons rfl (.cons ⟨t, rfl⟩ .nil)) r (.cons q1 (.cons q2 .nil)) (by rw [hn]; rfl) p) fun u s' z => cmpBack z
      obtain ⟨fo, i1⟩ := hI.int1
      obtain ⟨ro, i2⟩ := hI.int2
      obtain ⟨fm, fr⟩ := I2.fr
      exact PySem.W.ksp_binT fr I2.mod.kin J1 (T := "int") rfl (hT.fst C c1') hs hf (hT.refl C c1') (.inl rfl) i1 i2 (hI.isub C c1') call
    · exact p.elim
  · exact p.elim
end
end Sm

/-! S26: o.m(..), ~o, str(o), o == p. -/
namespace Sm
open PySem PySem.Spec PyProof.Rows L2

def attrs : W → List Str
  | .obj _ ns _ => ns
  | .tree _ ns _ _ => ns
  | _ => []
theorem ins_of {c : Cn} {F : Hp} {ρ : List Addr} {w : W} {v : V} {C : Str} (q : RW c F ρ w v) (e : clsW w = some C) : ∃ a dx gs, v = .ref a ∧ F a = some (.ins (c.cl C) dx gs) ∧ gs.map (·.1) = attrs w := by
  cases w with
  | obj C' ns vs =>
    cases e
    unfold RW at q
    obtain ⟨a, dx, gs, rfl, h1, h2, _⟩ := q
    exact ⟨a, dx, gs, rfl, h1, h2⟩
  | tree C' ns vs kids =>
    cases e
    unfold RW at q
    obtain ⟨a, dx, gs, t, rr, rfl, h1, h2, _⟩ := q
    rw [offN_keys] at h2
    exact ⟨a, dx, gs, rfl, h1, h2⟩
  | _ => cases e
def eMeth (mn : Str) (T : List Str) (n : Nat) (dws : List W) (Γ : Str → List W → M W) (fo : Fe) (g : Fas) : Fe := fun τ => bnd (fo τ) fun x m => match clsW x with
  | some C => if T.contains C && !((attrs x).contains mn) then bnd (g τ) (fun ws m => if (x :: ws ++ dws).length = n then Γ C (x :: ws ++ dws) m else .bad) m else .bad
  | none => .bad
section
variable {cl : Str → Addr} {X : Cx} {Wx : WX} {o e : Expr} {es : List Expr} {fo : Fe} {g : Fas} {pos apos : Pos} {k n : Nat} {T : List Str} {dws : List W} {Γ : Str → List W → M W} {mn : Str}
/-- behind the receiver -/
def rMeth (c : Cn) (Wx : WX) (σ : L2.St) (Q : VK) (mn : Str) (T : List Str) (n : Nat) (dws : List W) (Γ : Str → List W → M W) (g : Fas) (x : V) (H : Hp) : Prop :=
  ∃ F ρ m τ wx C, R c F ρ m H ∧ RS c F ρ τ σ H ∧ RW c F ρ wx x ∧ clsW wx = some C ∧ C ∈ T ∧ mn ∉ attrs wx ∧ Post (OkE c F ρ H Q) (OkX c F ρ H fun k d H' => Wx k d σ H') (bnd (g τ) (fun ws m => if (wx :: ws ++ dws).length = n then Γ C (wx :: ws ++ dws) m else .bad) m)
theorem w_meth {c : Cn} {σ : L2.St} {H : Hp} {Q : VK} (h : sE c Wx (eMeth mn T n dws Γ fo g) σ H Q) : sE c Wx fo σ H (rMeth c Wx σ Q mn T n dws Γ g) := by
  obtain ⟨F, ρ, m, τ, r, s, p⟩ := h
  refine ⟨F, ρ, m, τ, r, s, ?_⟩
  unfold eMeth bnd at p
  cases e : fo τ m with
  | bad =>
    rw [e] at p
    exact p
  | exc x m' =>
    rw [e] at p
    exact p
  | ok w1 m1 =>
    rw [e] at p
    dsimp only at p
    intro v F1 ρ1 H1 r1 g1 q1
    split at p
    · rename_i C ec
      split at p
      · rename_i hc
        obtain ⟨c1, c2⟩ := Bool.and_eq_true_iff.mp hc
        refine ⟨F1, ρ1, m1, τ, w1, C, r1, s.go g1, q1, ec, List.contains_iff_mem.mp c1, (fun z => by rw [List.contains_iff_mem.mpr z] at c2; exact Bool.noConfusion c2), ?_⟩
        unfold bnd
        cases e2 : g τ m1 with
        | bad =>
          rw [e2] at p
          exact p
        | exc x m' =>
          rw [e2] at p
          exact OkX.back r1 g1 p
        | ok ws m2 =>
          rw [e2] at p
          dsimp only at p ⊢
          split at p
          · rename_i hl
            rw [if_pos hl]
            cases e3 : Γ C (w1 :: ws ++ dws) m2 with
            | bad =>
              rw [e3] at p
              exact p
            | exc x m' =>
              rw [e3] at p
              exact OkX.back r1 g1 p
            | ok w m3 =>
              rw [e3] at p
              exact OkE.back g1 p
          · exact p.elim
      · exact p.elim
    · exact p.elim
/-- the call, behind the arguments -/
def rMeth2 (c : Cn) (Wx : WX) (σ : L2.St) (Q : VK) (n : Nat) (dws : List W) (Γ : List W → M W) (x : V) (vs : List V) (H : Hp) : Prop :=
  ∃ F ρ m ws, R c F ρ m H ∧ RWs c F ρ ws (x :: vs) ∧ (ws ++ dws).length = n ∧ Post (OkE c F ρ H Q) (OkX c F ρ H fun k d H' => Wx k d σ H') (Γ (ws ++ dws) m)
theorem w_meth2 {c : Cn} {F : Hp} {ρ : List Addr} {m : Sto} {τ : SS} {σ : L2.St} {H : Hp} {Q : VK} {wx : W} {x : V} {γ : List W → M W} (r : R c F ρ m H) (s : RS c F ρ τ σ H) (q : RW c F ρ wx x)
    (p : Post (OkE c F ρ H Q) (OkX c F ρ H fun k d H' => Wx k d σ H') (bnd (g τ) (fun ws m => if (wx :: ws ++ dws).length = n then γ (wx :: ws ++ dws) m else .bad) m)) : sA c Wx g σ H fun vs H2 => rMeth2 c Wx σ Q n dws γ x vs H2 := by
  refine ⟨F, ρ, m, τ, r, s, ?_⟩
  unfold bnd at p
  cases e : g τ m with
  | bad =>
    rw [e] at p
    exact p
  | exc x m' =>
    rw [e] at p
    exact p
  | ok ws m1 =>
    rw [e] at p
    dsimp only at p
    intro vs F1 ρ1 H1 r1 g1 q1
    split at p
    · rename_i hl
      refine ⟨F1, ρ1, m1, wx :: ws, r1, .cons (q.mono g1.ff g1.pre) q1, hl, ?_⟩
      show Post _ _ (γ (wx :: ws ++ dws) m1)
      cases e3 : γ (wx :: ws ++ dws) m1 with
      | bad =>
        rw [e3] at p
        exact p
      | exc x m' =>
        rw [e3] at p
        exact OkX.back r1 g1 p
      | ok w m3 =>
        rw [e3] at p
        exact OkE.back g1 p
    · exact p.elim
theorem s_meth {pl : Sem Bool} (hC : ∀ C ∈ T, Cls X.K (cl C)) (hΓ : ∀ C ∈ T, CalM X.prog X.w X.K X.mg X.base cl k C mn n dws (Γ C)) (hr : Room k X.A) (tk : Takes X Wx) (ho : SE ⟨X.K, cl⟩ X Wx o fo) (ha : SA ⟨X.K, cl⟩ X Wx (e :: es) g)
    (hst : starEach (e :: es) X.env = (false, eval e X.env) :: starEach es X.env := by rfl) (hpl : (backTo pos (starEach es X.env)).any (·.1) = false := by rfl)
    (ht : eval (.Call (.Attribute o mn apos) (e :: es) [] pos) X.env = (do
      let ov ← eval o X.env
      standAt apos.atName
      let (f, first) ← holding [ov] (getMethod ov mn pl)
      callWith pos f first (backTo pos (starEach (e :: es) X.env)) (backToKw pos (keywordEach [] X.env))) := by rfl) :
    SE ⟨X.K, cl⟩ X Wx (.Call (.Attribute o mn apos) (e :: es) [] pos) (eMeth mn T n dws Γ fo g) := by
  refine ⟨fun pins s σ H Q I h => ?_⟩
  refine PySem.W.methodCall_KW (pl := pl) (thn (ho.run pins s σ H _ I (w_meth h)) fun u s1 ⟨x, H1, I1, rx, F, ρ, m, τ, wx, C, r, hs, q, ec, hc, hn, p⟩ => ?_) ht
  obtain ⟨a, dx, gs, rfl, h1, h2⟩ := ins_of q ec
  obtain rfl : u = Value.ref a := rx
  obtain ⟨f, fd, ps, ds, dvs, Fn, hps, hbd, hd, hw, hf1, hf2, hf3⟩ := (hΓ C hc).ex
  refine getmeth_ok I1 (r.sub _ _ h1) (hC C hc) ⟨hf1, hf2, hf3⟩ (lookup_none (by rw [h2]; exact hn)) ?_
  refine PySem.W.callWith_K (first := [.ref a]) (h₀ := X.base) I.ok.mod.kin hf3 (thn (ha.run pos pins s1 σ H1 _ I1 (w_meth2 r hs q p)) fun us s2 ⟨vs, H2, I2, rv, F2, ρ2, m2, ws, r2, q2, hl, p2⟩ => ⟨I2.kIn, ?_⟩) hst hpl
  exact run_M (us := .ref a :: us) (vs := .ref a :: vs) Fn hr hbd hd hw tk I2 (.cons rfl rv) r2 q2 (by rw [hps]; exact hl) p2
theorem s_meth0 {pl : Sem Bool} (hC : ∀ C ∈ T, Cls X.K (cl C)) (hΓ : ∀ C ∈ T, CalM X.prog X.w X.K X.mg X.base cl k C mn n dws (Γ C)) (hr : Room k X.A) (tk : Takes X Wx) (ho : SE ⟨X.K, cl⟩ X Wx o fo)
    (ht : eval (.Call (.Attribute o mn apos) [] [] pos) X.env = (do
      let ov ← eval o X.env
      standAt apos.atName
      let (f, first) ← holding [ov] (getMethod ov mn pl)
      callWith pos f first (backTo pos (starEach [] X.env)) (backToKw pos (keywordEach [] X.env))) := by rfl) :
    SE ⟨X.K, cl⟩ X Wx (.Call (.Attribute o mn apos) [] [] pos) (eMeth mn T n dws Γ fo aNil) := by
  refine ⟨fun pins s σ H Q I h => ?_⟩
  refine PySem.W.methodCall_KW (pl := pl) (thn (ho.run pins s σ H _ I (w_meth h)) fun u s1 ⟨x, H1, I1, rx, F, ρ, m, τ, wx, C, r, hs, q, ec, hc, hn, p⟩ => ?_) ht
  obtain ⟨a, dx, gs, rfl, h1, h2⟩ := ins_of q ec
  obtain rfl : u = Value.ref a := rx
  obtain ⟨f, fd, ps, ds, dvs, Fn, hps, hbd, hd, hw, hf1, hf2, hf3⟩ := (hΓ C hc).ex
  refine getmeth_ok I1 (r.sub _ _ h1) (hC C hc) ⟨hf1, hf2, hf3⟩ (lookup_none (by rw [h2]; exact hn)) ?_
  obtain ⟨F0, ρ0, m0, τ0, r0, hs0, p0⟩ := w_meth2 (γ := Γ C) r hs q p
  obtain ⟨F2, ρ2, m2, ws, r2, q2, hl, p2⟩ := p0 [] F0 ρ0 H1 r0 .refl rfl
  exact PySem.W.callWith_K0 (first := [.ref a]) I1.kIn hf3 (run_M (us := [.ref a]) (vs := [.ref a]) Fn hr hbd hd hw tk I1 (.cons rfl .nil) r2 q2 (by rw [hps]; exact hl) p2)

/-! ### ~o -/
def op1M (T : List Str) (Γ : Str → List W → M W) (x : W) : M W := fun m => match clsW x with
  | some C => if T.contains C then Γ C [x] m else .bad
  | none => .bad
def e1M (g : W → M W) (fa : Fe) : Fe := fun τ => bnd (fa τ) fun x => g x
theorem w_1M {c : Cn} {g : W → M W} {σ : L2.St} {H : Hp} {Q : VK} {fa : Fe} (h : sE c Wx (e1M g fa) σ H Q) : sE c Wx fa σ H fun x H1 => ∃ F ρ m wx, R c F ρ m H1 ∧ RW c F ρ wx x ∧ Post (OkE c F ρ H1 Q) (OkX c F ρ H1 fun k d H' => Wx k d σ H') (g wx m) := by
  obtain ⟨F, ρ, m, τ, r, s, p⟩ := h
  refine ⟨F, ρ, m, τ, r, s, ?_⟩
  unfold e1M bnd at p
  cases e : fa τ m with
  | bad =>
    rw [e] at p
    exact p
  | exc x m' =>
    rw [e] at p
    exact p
  | ok w1 m1 =>
    rw [e] at p
    dsimp only at p
    intro v F1 ρ1 H1 r1 g1 q1
    refine ⟨F1, ρ1, m1, w1, r1, q1, ?_⟩
    cases e3 : g w1 m1 with
    | bad =>
      rw [e3] at p
      exact p
    | exc x m' =>
      rw [e3] at p
      exact OkX.back r1 g1 p
    | ok w m3 =>
      rw [e3] at p
      exact OkE.back g1 p
theorem s_inv (hΓ : ∀ C ∈ T, CalM X.prog X.w X.K X.mg X.base cl k C "__invert__" 1 [] (Γ C)) (hr : Room k X.A) (tk : Takes X Wx) (ho : SE ⟨X.K, cl⟩ X Wx o fo) : SE ⟨X.K, cl⟩ X Wx (.UnaryOp .Invert o pos) (e1M (op1M T Γ) fo) := by
  refine ⟨fun pins s σ H Q I h => UnaryOp_ (thn (ho.run pins s σ H _ I (w_1M h)) fun v s1 ⟨x, H1, I1, rx, F, ρ, m, wx, r, q, p⟩ => ?_)⟩
  unfold op1M at p
  split at p
  · rename_i C ec
    split at p
    · rename_i hc
      obtain ⟨a, ox, od, rfl, J⟩ := inst_of I1 r q ec
      cases rx
      obtain ⟨f, fd, ps, ds, dvs, Fn, hps, hbd, hd, hw, hf1, hf2, hf3⟩ := (hΓ C (List.contains_iff_mem.mp hc)).ex
      obtain ⟨fm, fr⟩ := I1.fr
      exact PySem.W.ksp_inv fr I1.mod.kin J hf1 hf2 (run_M (us := [.ref a]) (vs := [.ref a]) Fn hr hbd hd hw tk I1 (.cons rfl .nil) r (.cons q .nil) (by rw [hps]; rfl) p)
    · exact p.elim
  · exact p.elim
end
end Sm

/-! S27: own == and !=, str(o). -/
namespace Sm
open PySem PySem.Spec PySem.W PySem.Calls PyProof.Rows
section
variable {prog : Program} {w : World} {M : Model} {A : Around} {E : Value → Shared → Prop} {s : Shared} {K : Frag} {x C f : Addr} {ox : Obj} {od : Option Obj} {b tb : Value} {name : Str} {id : String}
theorem ifBound_B {args : List Value} {Q : Option Value → Shared → Prop} (X : K.In s.heap) (I : InstAt s.heap x ox C od) (hs : findIn K (.ref C) name = some (some (.builtin id))) (hb : ∀ self, bindSpecial (.builtin id) self = pure (.builtin id, [self]))
    (h : wpAny M A (call (.builtin id) (.ref x :: args)) (fun v => Q (some v)) E s) : wpAny M A (callSpecialIfBound? (.ref x) name args) Q E s := by
  simp only [callSpecialIfBound?, bindSpecialIfBound?]
  refine wpAny_holding (wpAny_bind (wpAny_bind (wpAny_bind (I.type.here ((looks_findIn X hs).here ?_)))))
  refine wpAny_bind (wpAny_askSetting (wpAny_ite ?_))
  have fin : wpAny M A (call (.builtin id) ([.ref x] ++ args) >>= fun v => pure (some v)) Q E s := wpAny_bind (wpAny_mono h (fun v s' h' => wpAny_pure h') fun _ _ h' => h')
  split
  · exact wpAny_bind ((Looks.of_pure (hb _)).here (wpAny_pure (by exact fin)))
  · exact wpAny_tryCatch (wpAny_bind ((Looks.of_pure (hb _)).here (wpAny_pure (by exact fin))))
open Builtin in
theorem one_ne {Q : Value → Shared → Prop} (hu : A.in1.units < cLine) (X : K.In s.heap) (I : InstAt s.heap x ox C od) (hm : mroIn K C (.type "object") = some true) (he : findIn K (.ref C) "__eq__" = some (some (.ref f))) (hf : isFn K (.ref f) = true)
    (h : wpAny (model prog w) A.in1 (call (.ref f) [.ref x, b]) (fun v s' => ∃ r, v = .bool r ∧ Q (.bool (!r)) s') E s) : wpAny (model prog w) A (call (.builtin "object.__ne__") [.ref x, b]) Q E s := by
  refine wpAny_call (codeAny_call_builtin PySem.F.slot_object_ne.plain PySem.F.entry_object_ne (check_slot (i := "object.__ne__") (owner := "object") (n := "__ne__") (by decide +kernel) (by decide +kernel) (I.type.andThen (looks_mroIn X hm)) (PySem.F.args_object_ne_2 _ _) ?_))
  unfold Builtin.«object.__ne__»
  refine wpAny_bind (m := slotArgs "__ne__" 1 _) (wpAny_pure ?_)
  refine wpAny_bind (m := cRoomFor _ _) (wpAny_cRoomFor hu ?_)
  refine wpAny_bind (m := callSpecialIfBound? (.ref x) (Str.ofString "__eq__") _) (ifBound_K X I he hf (wpAny_mono h (fun v s' hq => ?_) fun _ _ y => y))
  obtain ⟨r, rfl, q⟩ := hq
  exact wpAny_bind (wpAny_truthy_bool (wpAny_pure q))
theorem ne_K {Q : Value → Shared → Prop} (hu : A.units < cLine) (hu1 : A.in1.units < cLine) (X : K.In s.heap) (I : InstAt s.heap x ox C od) (hb : Looks (model prog w) s.heap (typeOf b) tb) (hn : notFirst K C tb = true) (hm : mroIn K C (.type "object") = some true)
    (hs : findIn K (.ref C) "__ne__" = some (some (.builtin "object.__ne__"))) (he : findIn K (.ref C) "__eq__" = some (some (.ref f))) (hf : isFn K (.ref f) = true)
    (h : wpAny (model prog w) A.in1 (call (.ref f) [.ref x, b]) (fun v s' => ∃ r, v = .bool r ∧ Q (.bool (!r)) s') E s) : wpAny (model prog w) A (richCompare .NotEq (.ref x) b) Q E s := by
  have one : wpAny (model prog w) A (tryCompare (.ref x) "__ne__" b) (fun r s' => ∃ v, r = some v ∧ Q v s') E s := by
    unfold tryCompare
    refine wpAny_bind (ifBound_B X I hs PySem.F.slot_object_ne.bind (one_ne hu1 X I hm he hf (wpAny_mono h (fun v s' hv => ?_) fun _ _ e => e)))
    obtain ⟨r, rfl, q⟩ := hv
    exact ⟨r, rfl, wpAny_pure ⟨_, rfl, q⟩⟩
  unfold richCompare
  simp only [oneThing_ref]
  refine wpAny_holding (wpAny_bind (wpAny_cRoomFor hu ?_))
  refine wpAny_bind (I.type.here (wpAny_bind (hb.here ?_)))
  split
  · rename_i q
    have e : subIn K tb (.ref C) = some false := by
      rcases Bool.or_eq_true_iff.mp hn with e | e
      · rw [beq_iff_eq.mp e] at q; simp at q
      · exact beq_iff_eq.mp e
    refine wpAny_bind ((looks_subIn X e).here ?_)
    simp only [Bool.false_eq_true, if_false]
    refine wpAny_bind (wpAny_mono one (fun r s' z => ?_) fun _ _ e => e)
    obtain ⟨v, rfl, hq⟩ := z
    exact wpAny_pure hq
  · refine wpAny_bind (wpAny_pure ?_)
    simp only [Bool.false_eq_true, if_false]
    refine wpAny_bind (wpAny_mono one (fun r s' z => ?_) fun _ _ e => e)
    obtain ⟨v, rfl, hq⟩ := z
    exact wpAny_pure hq
end
end Sm

/-! S28: a == b, a != b of instances. -/
namespace Sm
open PySem PySem.Spec PyProof.Rows L2
section
variable {cl : Str → Addr} {X : Cx} {pins : List (Addr × Obj)} {σ : L2.St} {H : Hp} {s : Shared} {F : Hp} {ρ : List Addr} {m : Sto}
/-- run_M, deeper within a built-in -/
theorem run_MA {A : Around} {Wx : WX} {k : Nat} {f : Addr} {fd : FuncData} {ps : List Str} {ds : List Value} {dvs : List V} {dws : List W} {γ : List W → M W} {Q : VK} {us : List Value} {vs : List V} {ws : List W} (Fn : FnOk X.prog X.w X.K X.mg X.base (CX X.prog X.w) k f fd ps (spF ⟨X.K, cl⟩ ps.length γ)) (hr : Room k A) (hfr : A.frames = X.A.frames) (hb : Binds X.K fd ps ds) (hd : Vals dvs ds)
    (hw : ∀ F ρ, RWs ⟨X.K, cl⟩ F ρ dws dvs) (tk : Takes X Wx) (I : Inv X pins σ H s) (rv : Vals vs us) (r : R ⟨X.K, cl⟩ F ρ m H) (q : RWs ⟨X.K, cl⟩ F ρ ws vs) (hl : (ws ++ dws).length = ps.length)
    (p : Post (OkE ⟨X.K, cl⟩ F ρ H Q) (OkX ⟨X.K, cl⟩ F ρ H fun k d H' => Wx k d σ H') (γ (ws ++ dws) m)) : wpAny (model X.prog X.w) A (call (.ref f) us) (EP X pins σ Q) X.xe s := by
  have h : spF ⟨X.K, cl⟩ ps.length γ (vs ++ dvs) H Q (fun k d H' => Wx k d σ H') := ⟨by rw [(q.append (hw F ρ)).length]; exact hl, F, ρ, m, ws ++ dws, r, q.append (hw F ρ), p⟩
  have r2 : Vals (vs ++ dvs) (us ++ ds) := rv.append hd
  have hl2 : (us ++ ds).length = ps.length := by rw [← r2.length]; exact Fn.len _ _ _ _ h
  have e0 : Env0 X.prog X.w X.K X.mg X.base A X.stack s H := by
    have e := I.env0
    exact ⟨by rw [hfr]; exact e.frames, e.mod, e.bs, e.bsz, e.funs, e.frf, e.hok, e.bare⟩
  refine wpAny_call (codeAny_mono (Fn.run A X.stack s H ⟨us, []⟩ (us ++ ds) (vs ++ dvs) Q _ hr e0 (hb s us I.kIn hl2) r2 h) fun r s' hq => ?_)
  cases r with
  | error e => exact tk e s' (XE.of_call I (fun _ _ _ z => z) hq)
  | ok fl =>
    cases fl with
    | ret u => exact I.after hq
    | next => exact False.elim hq
    | brk => exact False.elim hq
    | cont => exact False.elim hq
end
structure EqT (K : PySem.W.Frag) (cl : Str → Addr) (T : List Str) : Prop where
  nf : ∀ C ∈ T, ∀ D ∈ T, PySem.W.notFirst K (cl C) (.ref (cl D)) = true
  ob : ∀ C ∈ T, PySem.W.mroIn K (cl C) (.type "object") = some true
  ne : ∀ C ∈ T, PySem.W.findIn K (.ref (cl C)) "__ne__" = some (some (.builtin "object.__ne__"))
/-- the own == turned -/
def notM (T : List Str) (Γ : Str → List W → M W) (x y : W) : M W := bnd (opM T Γ x y) fun w m => match w with
  | .bl b => .ok (.bl (!b)) m
  | _ => .bad
section
variable {cl : Str → Addr} {X : Cx} {Wx : WX} {a b : Expr} {fa fb : Fe} {pos : Pos} {k : Nat} {T : List Str} {Γ : Str → List W → M W}
/-- a comparison that may run own code -/
def CmpM (c : Cn) (X : Cx) (Wx : WX) (op : CmpOp) (g : W → W → M W) : Prop :=
  ∀ (pins : List (Addr × Obj)) (s : Shared) (σ : L2.St) (H : Hp) (x y : V) (v u : Value) (Q : VK), Inv X pins σ H s → RelV x v → RelV y u → r2M c Wx σ Q g x y H → wpAny (model X.prog X.w) X.A (compareOp op v u) (EP X pins σ Q) X.xe s
theorem s_cmpM {c : Cn} {op : CmpOp} {g : W → W → M W} (ho : CmpM c X Wx op g) (ha : SE c X Wx a fa) (hb : SE c X Wx b fb) (hm : behindInMarks op b = false := by first | exact nomark _ | rfl | with_unfolding_all rfl) : SE c X Wx (.Compare a [op] [b] pos) (e2M g fa fb) :=
  ⟨fun pins s σ H Q I h => wpAny_Compare1 (binT ha hb I (w_2M h) fun v u s2 x y H2 I2 rx ry q => ho pins s2 σ H2 x y v u Q I2 rx ry q) hm⟩
theorem t_cmpM {c : Cn} {op : CmpOp} {g : W → W → M W} (ho : CmpM c X Wx op g) (ha : SE c X Wx a fa) (hb : SE c X Wx b fb) (hm : behindInMarks op b = false := by first | exact nomark _ | rfl | with_unfolding_all rfl) : ST c X Wx (.Compare a [op] [b] pos) (tBl (e2M g fa fb)) := by
  refine ⟨fun pins s σ H Q I h => ?_⟩
  obtain ⟨F, ρ, m, τ, r, hs, p⟩ := h
  have h' : sE c Wx (e2M g fa fb) σ H (fun x H' => ∃ k, x = V.bl k ∧ Q k H') := by
    refine ⟨F, ρ, m, τ, r, hs, ?_⟩
    unfold tBl bnd at p
    cases e : e2M g fa fb τ m with
    | bad =>
      rw [e] at p
      exact p
    | exc x m' =>
      rw [e] at p
      exact p
    | ok w m1 =>
      rw [e] at p
      dsimp only at p
      cases w with
      | bl k => exact fun v F' ρ' H' r' g' q' => ⟨k, q', p F' ρ' H' r' g'⟩
      | _ => exact p.elim
  refine wpAny_isTrue_Compare1 (thn (ha.run pins s σ H _ I (w_2M h')) fun v s1 ⟨x, H1, I1, r1, q1⟩ => thn (hb.run pins s1 σ H1 _ I1 q1) fun u s2 ⟨y, H2, I2, r2, q2⟩ =>
    thn (ho pins s2 σ H2 x y v u _ I2 r1 r2 q2) fun c s3 ⟨z, H3, I3, r3, k, e, q3⟩ => ?_) hm
  subst e
  cases r3
  exact wpAny_truthy_bool ⟨H3, I3, q3⟩
theorem m_eqO (hT : EqT X.K cl T) (hΓ : ∀ C ∈ T, CalM X.prog X.w X.K X.mg X.base cl k C "__eq__" 2 [] (Γ C)) (hr : Room k X.A) (tk : Takes X Wx) : CmpM ⟨X.K, cl⟩ X Wx .Eq (opM T Γ) := by
  intro pins s2 σ H2 x y v u Q I2 rx ry q
  obtain ⟨F, ρ, m, wx, wy, r, q1, q2, p⟩ := q
  unfold opM at p
  split at p
  · rename_i C D e1 e2
    split at p
    · rename_i hc
      obtain ⟨c1, c2⟩ := Bool.and_eq_true_iff.mp hc
      have c1' := List.contains_iff_mem.mp c1
      have c2' := List.contains_iff_mem.mp c2
      obtain ⟨ax, ox, od, rfl, J1⟩ := inst_of I2 r q1 e1
      obtain ⟨ay, oy, oe, rfl, J2⟩ := inst_of I2 r q2 e2
      cases rx
      cases ry
      obtain ⟨f, fd, ps, ds, dvs, Fn, hn, hbd, hd, hw, hs, hf, _⟩ := (hΓ C c1').ex
      obtain ⟨fm, fr⟩ := I2.fr
      exact PySem.W.cmp_ofEq (PySem.W.cmp_K (op := .Eq) hr.units0 fr I2.mod.kin J1 J2.type (hT.nf C c1' D c2') hs hf
        (thn (run_M (us := [.ref ax, .ref ay]) (vs := [.ref ax, .ref ay]) Fn hr hbd hd hw tk I2 (.cons rfl (.cons rfl .nil)) r (.cons q1 (.cons q2 .nil)) (by rw [hn]; rfl) p) fun u s' z => cmpBack z))
    · exact p.elim
  · exact p.elim
theorem m_neO (hT : EqT X.K cl T) (hΓ : ∀ C ∈ T, CalM X.prog X.w X.K X.mg X.base cl k C "__eq__" 2 [] (Γ C)) (hr : Room (k + 1) X.A) (tk : Takes X Wx) : CmpM ⟨X.K, cl⟩ X Wx .NotEq (notM T Γ) := by
  intro pins s2 σ H2 x y v u Q I2 rx ry q
  obtain ⟨F, ρ, m, wx, wy, r, q1, q2, p⟩ := q
  unfold notM opM bnd at p
  dsimp only at p
  cases e1 : clsW wx with
  | none =>
    rw [e1] at p
    exact p.elim
  | some C =>
    cases e2 : clsW wy with
    | none =>
      rw [e1, e2] at p
      exact p.elim
    | some D =>
      rw [e1, e2] at p
      dsimp only at p
      by_cases hc : (T.contains C && T.contains D) = true
      · rw [if_pos hc] at p
        obtain ⟨c1, c2⟩ := Bool.and_eq_true_iff.mp hc
        have c1' := List.contains_iff_mem.mp c1
        have c2' := List.contains_iff_mem.mp c2
        obtain ⟨ax, ox, od, rfl, J1⟩ := inst_of I2 r q1 e1
        obtain ⟨ay, oy, oe, rfl, J2⟩ := inst_of I2 r q2 e2
        cases rx
        cases ry
        obtain ⟨f, fd, ps, ds, dvs, Fn, hn, hbd, hd, hw, hs, hf, _⟩ := (hΓ C c1').ex
        have p' : Post (OkE ⟨X.K, cl⟩ F ρ H2 (fun v H' => ∃ b, v = .bl b ∧ Q (.bl (!b)) H')) (OkX ⟨X.K, cl⟩ F ρ H2 fun k d H' => Wx k d σ H') (Γ C ([wx, wy] ++ []) m) := by
          show Post _ _ (Γ C [wx, wy] m)
          cases e3 : Γ C [wx, wy] m with
          | bad =>
            rw [e3] at p
            exact p
          | exc z m' =>
            rw [e3] at p
            exact p
          | ok w m' =>
            rw [e3] at p
            cases w with
            | bl b =>
              intro v F' ρ' H' r' g' q'
              exact ⟨b, q', p _ F' ρ' H' r' g' rfl⟩
            | _ => exact p.elim
        refine PySem.W.cmp_ofNotEq (ne_K hr.units0 hr.in1.units0 I2.kIn J1 J2.type (hT.nf C c1' D c2') (hT.ob C c1') (hT.ne C c1') hs hf
          (thn (run_MA (A := X.A.in1) (us := [.ref ax, .ref ay]) (vs := [.ref ax, .ref ay]) Fn hr.in1 rfl hbd hd hw tk I2 (.cons rfl (.cons rfl .nil)) r (.cons q1 (.cons q2 .nil)) (by rw [hn]; rfl) p') fun u s' z => ?_))
        obtain ⟨v, H', I', rv, b, rfl, q⟩ := z
        cases rv
        exact ⟨b, rfl, .bl (!b), H', I', rfl, q⟩
      · rw [if_neg hc] at p
        exact p.elim
end
end Sm

/-! S29: str(e). -/
namespace Sm
open PySem PySem.Spec PyProof.Rows L2
def strM (T : List Str) (Γ : Str → List W → M W) (x : W) : M W := fun m => match clsW x with
  | some C => if T.contains C then (match Γ C [x] m with
      | .ok (.str y) m' => .ok (.str y) m'
      | .ok _ _ => .bad
      | .exc e m' => .exc e m'
      | .bad => .bad) else .bad
  | none => lift (strW [x] m) m
section
variable {cl : Str → Addr} {X : Cx} {Wx : WX} {e : Expr} {fe : Fe} {p pos : Pos} {k : Nat} {T : List Str} {Γ : Str → List W → M W}
theorem s_str' (hΓ : ∀ C ∈ T, CalM X.prog X.w X.K X.mg X.base cl k C "__str__" 1 [] (Γ C)) (hr : Room (k + 2) X.A) (tk : Takes X Wx) (he : SE ⟨X.K, cl⟩ X Wx e fe) (hm : X.mg "str" = none) (hg : Gl X "str" := by rfl)
    (hst : starEach [e] X.env = (false, eval e X.env) :: starEach [] X.env := by rfl) (hpl : (backTo pos (starEach [] X.env)).any (·.1) = false := by rfl) : SE ⟨X.K, cl⟩ X Wx (.Call (.Name "str" p) [e] [] pos) (e1M (strM T Γ) fe) := by
  refine ⟨fun pins s σ H Q I h => ?_⟩
  have hb : bootBuiltins "str" = some (.type "str") := by kernel_rfl
  have ha : PA X [e] (tCons (sE ⟨X.K, cl⟩ Wx fe) tNil) := pa_cons he pa_nil hst
  refine wpAny_Call_Name_kw (ld_blt I hg hm hb ?_ (by decide) (by decide))
  refine PyProof.Rows.callWith_type1 (thn (ha.run pos pins s σ H (fun vs H1 => ∃ x, vs = [x] ∧ ∃ F ρ m wx, R ⟨X.K, cl⟩ F ρ m H1 ∧ RW ⟨X.K, cl⟩ F ρ wx x ∧ Post (OkE ⟨X.K, cl⟩ F ρ H1 Q) (OkX ⟨X.K, cl⟩ F ρ H1 fun k d H' => Wx k d σ H') (strM T Γ wx m)) I ?_) fun us s1 ⟨vs, H1, I1, r1, x, ex, F, ρ, m, wx, r, q, pp⟩ => ?_) hst hpl
  · obtain ⟨F, ρ, m, τ, r, hs, p⟩ := w_1M h
    refine ⟨F, ρ, m, τ, r, hs, ?_⟩
    cases e1 : fe τ m with
    | bad =>
      rw [e1] at p
      exact p
    | exc z m' =>
      rw [e1] at p
      exact p
    | ok w m1 =>
      rw [e1] at p
      exact fun v F' ρ' H' r' g' q' => ⟨v, rfl, p v F' ρ' H' r' g' q'⟩
  subst ex
  show wpAny _ _ (call (.type "str") us) _ _ _
  unfold strM at pp
  cases ec : clsW wx with
  | none =>
    rw [ec] at pp
    dsimp only at pp
    cases wx with
    | int i =>
      have ex : x = .int i := q
      subst ex
      unfold strW at pp
      dsimp only at pp
      by_cases hi : i.natAbs.log2 < 1920
      · rw [if_pos hi] at pp
        exact call_str_int pins s1 σ H1 _ us Q I1 r1 ⟨i, rfl, hi, pp _ F ρ H1 r .refl rfl⟩
      · rw [if_neg hi] at pp
        exact pp.elim
    | str a =>
      have ex : x = .str a := q
      subst ex
      exact SkE.call_str_str pins s1 σ H1 _ us Q I1 r1 ⟨a, rfl, pp _ F ρ H1 r .refl rfl⟩
    | _ => exact pp.elim
  | some C =>
    rw [ec] at pp
    dsimp only at pp
    by_cases hc : T.contains C = true
    · rw [if_pos hc] at pp
      obtain ⟨a, ox, od, rfl, J⟩ := inst_of I1 r q ec
      obtain ⟨u, rfl, ru⟩ := vals1 r1
      cases ru
      obtain ⟨f, fd, ps, ds, dvs, Fn, hps, hbd, hd, hw, hf1, hf2, hf3⟩ := (hΓ C (List.contains_iff_mem.mp hc)).ex
      have p' : Post (OkE ⟨X.K, cl⟩ F ρ H1 (fun v H' => ∃ y, v = .str y ∧ Q (.str y) H')) (OkX ⟨X.K, cl⟩ F ρ H1 fun k d H' => Wx k d σ H') (Γ C ([wx] ++ []) m) := by
        show Post _ _ (Γ C [wx] m)
        cases e3 : Γ C [wx] m with
        | bad =>
          rw [e3] at pp
          exact pp
        | exc z m' =>
          rw [e3] at pp
          exact pp
        | ok w m' =>
          rw [e3] at pp
          cases w with
          | str y =>
            intro v F' ρ' H' r' g' q'
            exact ⟨y, q', pp _ F' ρ' H' r' g' rfl⟩
          | _ => exact pp.elim
      refine PySem.W.kso_call hr.in1.in1.units0 I1.kIn J hf1 hf2 (thn (run_MA (A := X.A.in1.in1) (us := [.ref a]) (vs := [.ref a]) Fn hr.in1.in1 rfl hbd hd hw tk I1 (.cons rfl .nil) r (.cons q .nil) (by rw [hps]; rfl) p') fun u s' z => ?_)
      obtain ⟨v, H', I', rv, y, rfl, qq⟩ := z
      obtain ⟨t, rfl⟩ := rv
      exact ⟨.str y, H', I', ⟨t, rfl⟩, qq⟩
    · rw [if_neg hc] at pp
      exact pp.elim
end
end Sm

/-! S30: x op= e of own classes. -/
namespace Sm
open PySem PySem.Spec PySem.W PySem.Calls PyProof.Rows
section
variable {prog : Program} {w : World} {M : Model} {A : Around} {E : Value → Shared → Prop} {s : Shared} {K : Frag} {x C y D f g : Addr} {ox oy : Obj} {od oe : Option Obj} {nm : String}
theorem anyM_no {h : Heap} {fn : Value → Sem Bool} : ∀ {l : List Value}, (∀ c ∈ l, Looks M h (fn c) false) → Looks M h (l.anyM fn) false
  | [], _ => .now
  | c :: r, e => by
    rw [List.anyM_cons]
    exact (e c (by simp)).andThen (anyM_no fun d hd => e d (List.mem_cons_of_mem _ hd))
def noI (K : Frag) (C : Addr) (nm : String) : Bool := (clsIn K C).any fun cd => cd.mro.all fun c => findIn K c (dunderI nm) == some none
theorem fillsI_no {h : Heap} {add : Bool} (X : K.In h) (hn : noI K C nm = true) : Looks M h (fillsInplaceSlot (.ref C) nm add) false := by
  obtain ⟨cd, hc, hm⟩ := any_some hn
  unfold fillsInplaceSlot
  refine ((looks_clsIn X hc).andThen (f := fun cd => pure cd.mro) .now).andThen (anyM_no fun c hcm => ?_)
  have e := beq_iff_eq.mp (List.all_eq_true.mp hm c hcm)
  exact (looks_findIn X e).andThen .now
theorem bin1 {Q : Value → Shared → Prop} (X : K.In s.heap) (I : InstAt s.heap x ox C od) (J : InstAt s.heap y oy D oe) (hc : selfFirst K C = true) (hd : selfFirst K D = true)
    (hs : findIn K (.ref C) (PySem.dunder nm) = some (some (.ref f))) (hf : isFn K (.ref f) = true) (hr : findIn K (.ref C) (dunderR nm) = some none)
    (hs' : findIn K (.ref D) (PySem.dunder nm) = some (some (.ref g))) (hr' : findIn K (.ref D) (dunderR nm) = some none) (hsub : D = C ∨ subIn K (.ref D) (.ref C) = some false)
    (h : wpAny (model prog w) A (call (.ref f) [.ref x, .ref y]) (PySem.W.CmpBack Q) E s) : wpAny (model prog w) A (binaryOp1 nm (.ref x) (.ref y)) (fun r s' => ∃ v, r = some v ∧ Q v s') E s := by
  obtain ⟨cd, rest, hcd, hm⟩ := ksp_first hc
  obtain ⟨dd, rest', hdd, hm'⟩ := ksp_first hd
  have one := ksp_try X I hs hf h
  obtain ⟨hh, gg, d, tt, os⟩ := s
  have L1 : Looks (model prog w) hh (typeOf (.ref x)) (.ref C) := I.type
  have L2 : Looks (model prog w) hh (typeOf (.ref y)) (.ref D) := J.type
  have L3 : Looks (model prog w) hh (fillsNumberSlot (.ref C) nm) true := fills_K X hcd hm hs
  have L4 : Looks (model prog w) hh (fillsNumberSlot (.ref D) nm) true := fills_K X hdd hm' hs'
  have L6 : Looks (model prog w) hh (numberSlotInPython (.ref C) nm) true := ksp_inPy X hs hr (.inl rfl)
  have L7 : Looks (model prog w) hh (numberSlotInPython (.ref D) nm) true := ksp_inPy X hs' hr' (.inl rfl)
  unfold binaryOp1
  refine wpAny_bind (L1.at (wpAny_bind (L2.at (wpAny_bind (L3.at ?_)))))
  by_cases ne : D = C
  · subst ne
    simp only [beq_self_eq_true, if_true]
    ksp_lk
    refine wpAny_mono one (fun r s' hr' => ?_) fun _ _ e => e
    obtain ⟨v, rfl, hq⟩ := hr'
    exact wpAny_pure ⟨v, rfl, hq⟩
  · have L5 : Looks (model prog w) hh (isSubtype (.ref D) (.ref C)) false := looks_subIn X (hsub.resolve_left ne)
    have hne : (Value.ref C == Value.ref D) = false := by simpa using fun e => ne e.symm
    simp only [hne, Bool.false_eq_true, if_false]
    ksp_lk
    refine wpAny_mono one (fun r s' hr' => ?_) fun _ _ e => e
    obtain ⟨v, rfl, hq⟩ := hr'
    exact wpAny_pure ⟨v, rfl, hq⟩
theorem inpl {op : Operator} {Q : Value → Shared → Prop} {b : Value} (X : K.In s.heap) (I : InstAt s.heap x ox C od) (hn : noI K C op.info.2 = true)
    (h : wpAny (model prog w) A (binaryOp1 op.info.2 (.ref x) b) (fun r s' => ∃ v, r = some v ∧ Q v s') E s) : wpAny (model prog w) A (inplaceOp op (.ref x) b) Q E s := by
  unfold inplaceOp
  refine wpAny_holding (wpAny_bind (I.type.here (wpAny_bind ((fillsI_no X hn).here ?_))))
  simp only [Bool.false_eq_true, if_false]
  refine wpAny_bind (wpAny_mono h (fun r s' hr => ?_) fun _ _ e => e)
  obtain ⟨v, rfl, q⟩ := hr
  exact wpAny_pure q
end
end Sm

/-! S31: x op= e as a statement. -/
namespace Sm
section
open PySem PySem.Spec PySem.W PySem.Calls PyProof.Rows
variable {prog : Program} {w : World} {M : Model} {A : Around} {E : Value → Shared → Prop} {s : Shared} {K : Frag} {x C f : Addr} {ox : Obj} {od : Option Obj} {nm T : String}
theorem bin1T {b : Value} {fo ro : Option Value} {Q : Value → Shared → Prop} (X : K.In s.heap) (I : InstAt s.heap x ox C od) (hb : typeOf b = pure (.type T)) (hc : selfFirst K C = true)
    (hs : findIn K (.ref C) (PySem.dunder nm) = some (some (.ref f))) (hf : isFn K (.ref f) = true) (hr : findIn K (.ref C) (dunderR nm) = some none)
    (h1 : findIn K (.type T) (PySem.dunder nm) = some fo) (h2 : findIn K (.type T) (dunderR nm) = some ro) (hsub : subIn K (.type T) (.ref C) = some false)
    (h : wpAny (model prog w) A (call (.ref f) [.ref x, b]) (PySem.W.CmpBack Q) E s) : wpAny (model prog w) A (binaryOp1 nm (.ref x) b) (fun r s' => ∃ v, r = some v ∧ Q v s') E s := by
  obtain ⟨cd, rest, hcd, hm⟩ := ksp_first hc
  have one := ksp_try X I hs hf h
  obtain ⟨hh, g, d, tt, os⟩ := s
  have L1 : Looks (model prog w) hh (typeOf (.ref x)) (.ref C) := I.type
  have L2 : Looks (model prog w) hh (typeOf b) (.type T) := Looks.of_pure hb
  have L3 : Looks (model prog w) hh (fillsNumberSlot (.ref C) nm) true := fills_K X hcd hm hs
  have L4 : Looks (model prog w) hh (fillsNumberSlot (.type T) nm) ((fo.isSome && !isSeqSlot fo) || (ro.isSome && !isSeqSlot ro)) := ksp_fillsT X h1 h2
  have L5 : Looks (model prog w) hh (isSubtype (.type T) (.ref C)) false := looks_subIn X hsub
  have L6 : Looks (model prog w) hh (numberSlotInPython (.ref C) nm) true := ksp_inPy X hs hr (.inl rfl)
  have L7 : Looks (model prog w) hh (numberSlotInPython (.type T) nm) false := Looks.of_pure rfl
  have L8 : Looks (model prog w) hh (typeLookup (.type T) (dunderR nm)) ro := looks_findIn X h2
  generalize ((fo.isSome && !isSeqSlot fo) || (ro.isSome && !isSeqSlot ro)) = right at L4
  have hne : (Value.ref C == Value.type T) = false := Bool.eq_false_iff.mpr fun q => by cases beq_iff_eq.mp q
  unfold binaryOp1
  refine wpAny_bind (L1.at (wpAny_bind (L2.at (wpAny_bind (L3.at ?_)))))
  simp only [hne, Bool.false_eq_true, if_false]
  cases right with
  | false =>
    ksp_lk
    refine wpAny_mono one (fun r s' hr' => ?_) fun _ _ e => e
    obtain ⟨v, rfl, hq⟩ := hr'
    exact wpAny_pure ⟨v, rfl, hq⟩
  | true =>
    ksp_lk
    refine wpAny_mono one (fun r s' hr' => ?_) fun _ _ e => e
    obtain ⟨v, rfl, hq⟩ := hr'
    exact wpAny_pure ⟨v, rfl, hq⟩
end
open PySem PySem.Spec PyProof.Rows L2
def tIpM (c : Cn) (g : W → W → M W) : TIp := fun x y H Q => ∃ F ρ m wx wy, R c F ρ m H ∧ RW c F ρ wx x ∧ RW c F ρ wy y ∧ Post (OkE c F ρ H Q) (fun _ _ => False) (g wx wy m)
def sAug (i : Nat) (f : Fe) (g : W → W → M W) : Fs := fun τ m => match τ[i]? with
  | some (.val x) => exS (f τ m) τ fun y m' => match g x y m' with
    | .ok w m2 => .ok (.nx (τ.set i (.val w))) m2
    | _ => .bad
  | _ => .bad
section
variable {cl : Str → Addr} {X : Cx} {Wx : WX} {B : Bs} {e : Expr} {f : Fe} {pos : Pos} {k : Nat} {T : List Str} {Γ : Str → List W → M W}
theorem x_aug {i : Nat} {x : Str} {op : Operator} {g : W → W → M W} {pos' : Pos} (ho : PIp X op (tIpM ⟨X.K, cl⟩ g)) (hN : X.N.Nodup) (hi : X.N[i]? = some x) (hx : Loc X.env.scope x) (h : SE ⟨X.K, cl⟩ X Wx e f) (i0 : i ≠ 0 := by decide)
    (hf : X.fn x = true ∨ X.env.scope.names.lookup x = some .local := by first | exact .inl rfl | exact .inr rfl | assumption) : SX ⟨X.K, cl⟩ X Wx B (.AugAssign (.Name x pos') op e pos) (sAug i f g) :=
  PS.weak (ps_aug hN hi hx h ho hf) fun D σ H ⟨F, ρ, m, τ, fr, p⟩ => by
    unfold sAug at p
    split at p
    · rename_i wx ex
      obtain ⟨v, e1, e2⟩ := fr.s.val i wx ex
      refine ⟨v, e1, useG fr p fun wy m' u F' ρ' H' gg fr' q k => ⟨F', ρ', m', wx, wy, fr'.r, e2.mono gg.ff gg.pre, q, ?_⟩⟩
      cases e3 : g wx wy m' with
      | bad =>
        rw [e3] at k
        exact k
      | exc z m2 =>
        rw [e3] at k
        exact k.elim
      | ok w m2 =>
        rw [e3] at k
        intro z F2 ρ2 H2 r2 g2 q2
        have fr2 := fr'.go r2 g2
        exact k _ F2 ρ2 H2 ⟨fr2.r, fr2.s.setv q2, fr2.g, fun j o a h1 h2 => by
          rcases get_set h1 with ⟨_, e⟩ | ⟨ne, h1⟩
          · cases e
          · rw [List.getElem?_set_ne ne] at h2
            exact fr2.fresh j o a h1 h2, fun o a eb h1 => by
          rcases get_set h1 with ⟨_, e⟩ | ⟨ne, h1⟩
          · cases e
          · rw [List.getElem?_set_ne ne]
            exact fr2.slf o a eb h1⟩
    · exact p.elim
theorem ip_O {op : Operator} (hT : OpT X.K cl op.info.2 T) (hI : ∀ C ∈ T, noI X.K (cl C) op.info.2 = true) (hΓ : ∀ C ∈ T, CalM X.prog X.w X.K X.mg X.base cl k C (PySem.dunder op.info.2) 2 [] (Γ C)) (hr : Room k X.A) (tk : Takes X Wx) : PIp X op (tIpM ⟨X.K, cl⟩ (opM T Γ)) := by
  intro pins s2 σ H2 x y v u Q I2 rx ry q
  obtain ⟨F, ρ, m, wx, wy, r, q1, q2, p⟩ := q
  unfold opM at p
  split at p
  · rename_i C D e1 e2
    split at p
    · rename_i hc
      obtain ⟨c1, c2⟩ := Bool.and_eq_true_iff.mp hc
      have c1' := List.contains_iff_mem.mp c1
      have c2' := List.contains_iff_mem.mp c2
      obtain ⟨ax, ox, od, rfl, J1⟩ := inst_of I2 r q1 e1
      obtain ⟨ay, oy, oe, rfl, J2⟩ := inst_of I2 r q2 e2
      cases rx
      cases ry
      obtain ⟨f, fd, ps, ds, dvs, Fn, hn, hbd, hd, hw, hs, hf, _⟩ := (hΓ C c1').ex
      obtain ⟨f', fd', ps', ds', dvs', Fn', _, _, _, _, hs', _, _⟩ := (hΓ D c2').ex
      have p' : Post (OkE ⟨X.K, cl⟩ F ρ H2 Q) (OkX ⟨X.K, cl⟩ F ρ H2 fun k d H' => Wx k d σ H') (Γ C ([wx, wy] ++ []) m) := by
        show Post _ _ (Γ C [wx, wy] m)
        cases e3 : Γ C [wx, wy] m with
        | bad =>
          rw [e3] at p
          exact p
        | exc z m2 =>
          rw [e3] at p
          exact p.elim
        | ok w m2 =>
          rw [e3] at p
          exact p
      have call := thn (run_M (us := [.ref ax, .ref ay]) (vs := [.ref ax, .ref ay]) Fn hr hbd hd hw tk I2 (.cons rfl (.cons rfl .nil)) r (.cons q1 (.cons q2 .nil)) (by rw [hn]; rfl) p') fun u s' z => cmpBack z
      exact inpl I2.kIn J1 (hI C c1') (bin1 I2.kIn J1 J2 (hT.fst C c1') (hT.fst D c2') hs hf (hT.refl C c1') hs' (hT.refl D c2') (hT.sub C c1' D c2') call)
    · exact p.elim
  · exact p.elim
theorem ip_I {op : Operator} (hT : OpT X.K cl op.info.2 T) (hN : OpI X.K cl op.info.2 T) (hI : ∀ C ∈ T, noI X.K (cl C) op.info.2 = true) (hΓ : ∀ C ∈ T, CalM X.prog X.w X.K X.mg X.base cl k C (PySem.dunder op.info.2) 2 [] (Γ C)) (hr : Room k X.A) (tk : Takes X Wx) : PIp X op (tIpM ⟨X.K, cl⟩ (opMI T Γ)) := by
  intro pins s2 σ H2 x y v u Q I2 rx ry q
  obtain ⟨F, ρ, m, wx, wy, r, q1, q2, p⟩ := q
  unfold opMI at p
  split at p
  · rename_i C i e1
    split at p
    · rename_i hc
      have c1' := List.contains_iff_mem.mp hc
      obtain ⟨ax, ox, od, rfl, J1⟩ := inst_of I2 r q1 e1
      have ey : y = .int i := q2
      subst ey
      cases rx
      obtain ⟨t, rfl⟩ := ry
      obtain ⟨f, fd, ps, ds, dvs, Fn, hn, hbd, hd, hw, hs, hf, _⟩ := (hΓ C c1').ex
      have p' : Post (OkE ⟨X.K, cl⟩ F ρ H2 Q) (OkX ⟨X.K, cl⟩ F ρ H2 fun k d H' => Wx k d σ H') (Γ C ([wx, .int i] ++ []) m) := by
        show Post _ _ (Γ C [wx, .int i] m)
        cases e3 : Γ C [wx, .int i] m with
        | bad =>
          rw [e3] at p
          exact p
        | exc z m2 =>
          rw [e3] at p
          exact p.elim
        | ok w m2 =>
          rw [e3] at p
          exact p
      have call := thn (run_M (us := [.ref ax, .int i t]) (vs := [.ref ax, .int i]) Fn hr hbd hd hw tk I2 (.cons rfl (.cons ⟨t, rfl⟩ .nil)) r (.cons q1 (.cons q2 .nil)) (by rw [hn]; rfl) p') fun u s' z => cmpBack z
      obtain ⟨fo, i1⟩ := hN.int1
      obtain ⟨ro, i2⟩ := hN.int2
      exact inpl I2.kIn J1 (hI C c1') (bin1T (T := "int") I2.kIn J1 rfl (hT.fst C c1') hs hf (hT.refl C c1') i1 i2 (hN.isub C c1') call)
    · exact p.elim
  · exact p.elim
end
end Sm

/-! S32: == and != of two lists of instances that are equal one by one. -/
namespace Sm
section
open PySem PySem.SeqAt GQ
open AutoSeq1 (wpAny_loadPart')
open MeetsSeq MeetsSeq2 MeetsSeq3 SeqRoads2
variable {prog : Program} {w : World} {A : Around} {R : Result → Shared → Prop} {E : Value → Shared → Prop} {s : Shared}
theorem ne_loop (l b : Addr) (N : Nat) (I : Nat → Shared → Prop) (hl : ListI prog w A (fun e s' => R (.error e) s') l b N I) (fin : ∀ s, I N s → R (.ok (.ret (.bool false))) s) (k : Nat) :
    ∀ i : Nat, N - i = k → i ≤ N → ∀ s, I i s → wpAny (model prog w) A.in1 (Builtin.«list.__eq__.loop» ⟨[.ref l, .ref b, rawInt i, rawInt 3], []⟩) (FinOf prog w A R) (fun e s' => R (.error e) s') s := by
  induction k with
  | zero =>
    intro i hk hi s h
    obtain ⟨items, items2, n, n2, hl1, hb1, hs1, hs2, _⟩ := hl _ _ h
    have hi' : i = N := by omega
    have hR : R (.ok (.ret (.bool false))) s := fin s (hi' ▸ h)
    obtain ⟨hp, g, d, tk, os⟩ := s
    wp_walk using wpAny_loadPart' hl1, wpAny_loadPart' hb1
    have hi1 : items[((i : Nat) : Int).toNat]? = none := by simp; omega
    have hi2 : items2[((i : Nat) : Int).toNat]? = none := by simp; omega
    rw [hi1, hi2]
    wp_walk using wpAny_loadPart' hl1, wpAny_loadPart' hb1
    show R (.ok (.ret (.bool (items.size != items2.size)))) _
    rw [hs1, hs2]
    simpa using hR
  | succ k ih =>
    intro i hk hi s h
    obtain ⟨items, items2, n, n2, hl1, hb1, hs1, hs2, turn⟩ := hl _ _ h
    have hlt : i < items.size := by omega
    have hlt2 : i < items2.size := by omega
    have ht := turn hlt hlt2
    obtain ⟨hp, g, d, tk, os⟩ := s
    wp_walk using wpAny_loadPart' hl1, wpAny_loadPart' hb1
    have hi1 : items[((i : Nat) : Int).toNat]? = some items[i] := by simp [hlt]
    have hi2 : items2[((i : Nat) : Int).toNat]? = some items2[i] := by simp [hlt2]
    have hc : ((i : Int) + 1) = ((i + 1 : Nat) : Int) := by omega
    rw [hi1, hi2]
    refine wpAny_bind (wpAny_mono ht (fun r s2 h2 => ?_) fun _ _ x => x)
    obtain ⟨hr, h2⟩ := h2
    subst hr
    have hrec := ih (i + 1) (by omega) (by omega) s2 h2
    obtain ⟨hp2, g2, d2, tk2, os2⟩ := s2
    wp_walk
    rw [hc]
    exact ⟨plainId_quiet plain_eq_loop _, codeAny_builtin entry_eq_loop (by
      rw [Around.under_plainId plain_eq_loop _]
      exact hrec)⟩
theorem list_ne (l b : Addr) (N : Nat) (I : Nat → Shared → Prop) (hl : ListI prog w A (fun e s' => R (.error e) s') l b N I) (fin : ∀ s, I N s → R (.ok (.ret (.bool false))) s) {s : Shared} (h : I 0 s) :
    wpAny (model prog w) A.in1 (Builtin.«list.__ne__» ⟨[.ref l, .ref b], []⟩) (FinOf prog w A R) (fun e s' => R (.error e) s') s := by
  obtain ⟨items, items2, n, n2, hl1, hb1, hs1, hs2, _⟩ := hl _ _ h
  have hrec := ne_loop (A := A) (R := R) l b N I hl fin _ 0 rfl (Nat.zero_le _) s h
  obtain ⟨hp, g, d, tk, os⟩ := s
  have f3 := AutoSeq1.sub_list_list
  have hne : ¬ (items.size != items2.size) = true := by simp [hs1, hs2]
  wp_walk using wpAny_loadPart' hl1, wpAny_loadPart' hb1
  exact ⟨plainId_quiet plain_eq_loop _, codeAny_builtin entry_eq_loop (by
    rw [Around.under_plainId plain_eq_loop _]
    exact hrec)⟩
theorem rc_listN {l b : Addr} {N : Nat} {Q : Value → Shared → Prop} (hu : A.units < cLine) (I : Nat → Shared → Prop) (hl : ListI prog w A E l b N I) (fin : ∀ s, I N s → Q (.bool false) s) (h : I 0 s) : wpAny (model prog w) A (richCompare .NotEq (.ref l) (.ref b)) Q E s := by
  obtain ⟨items, items2, n, n2, hl1, hb1, _, _, _⟩ := hl _ _ h
  refine wpAny_richCompare_same_room (op := .NotEq) ⟨_, hl1, rfl⟩ ⟨_, hb1, rfl⟩ F.slot_list_ne (call_here F.slot_list_ne ⟨_, hl1, rfl⟩ F.entry_list_ne (F.args_list_ne_2 _ _) ?_) hu
  exact list_ne (R := wants (fun v s' => v ≠ .notImplemented ∧ Q v s') E) l b N I hl (fun s' q => ⟨(fun x => nomatch x), fin s' q⟩) h
end
end Sm

/-! S33: the rule for == and != of two lists of instances. -/
namespace Sm
open PySem PySem.Spec PyProof.Rows L2
def AllEq (T : List Str) (Γ : Str → List W → M W) (m : Sto) (xs ys : List W) : Prop := xs.length = ys.length ∧ ∀ (i : Nat) (wx wy : W), xs[i]? = some wx → ys[i]? = some wy → opM T Γ wx wy m = .ok (.bl true) m
open Classical in
noncomputable def lstM (b : Bool) (T : List Str) (Γ : Str → List W → M W) (x y : W) : M W := fun m => match x, y with
  | .lst xs, .lst ys => if AllEq T Γ m xs ys then .ok (.bl b) m else .bad
  | _, _ => .bad
section
variable {cl : Str → Addr} {X : Cx} {Wx : WX} {k : Nat} {T : List Str} {Γ : Str → List W → M W} {pins : List (Addr × Obj)} {σ : L2.St} {H F : Hp} {ρ : List Addr} {m : Sto}
def LI (cl : Str → Addr) (X : Cx) (pins : List (Addr × Obj)) (σ : L2.St) (F : Hp) (ρ : List Addr) (H : Hp) (m : Sto) (s : Shared) : Prop := ∃ F1 ρ1 H1, Inv X pins σ H1 s ∧ R ⟨X.K, cl⟩ F1 ρ1 m H1 ∧ Go F ρ H F1 ρ1 H1
theorem turnM (hT : EqT X.K cl T) (hΓ : ∀ C ∈ T, CalM X.prog X.w X.K X.mg X.base cl k C "__eq__" 2 [] (Γ C)) {A : Around} (hr : Room k A) (hfr : A.frames = X.A.frames) (tk : Takes X Wx) {wx wy : W} {x y : V} {u v : Value} (q1 : RW ⟨X.K, cl⟩ F ρ wx x) (q2 : RW ⟨X.K, cl⟩ F ρ wy y) (rx : RelV x u) (ry : RelV y v)
    (p : opM T Γ wx wy m = .ok (.bl true) m) {s : Shared} (l : LI cl X pins σ F ρ H m s) : wpAny (model X.prog X.w) A (eqBool u v) (fun r s2 => r = true ∧ LI cl X pins σ F ρ H m s2) X.xe s := by
  obtain ⟨F1, ρ1, H1, I1, r1, g1⟩ := l
  unfold opM at p
  split at p
  · rename_i C D e1 e2
    split at p
    · rename_i hc
      obtain ⟨c1, c2⟩ := Bool.and_eq_true_iff.mp hc
      have c1' := List.contains_iff_mem.mp c1
      have c2' := List.contains_iff_mem.mp c2
      have q1' := q1.mono g1.ff g1.pre
      have q2' := q2.mono g1.ff g1.pre
      obtain ⟨ax, ox, od, rfl, J1⟩ := inst_of I1 r1 q1' e1
      obtain ⟨ay, oy, oe, rfl, J2⟩ := inst_of I1 r1 q2' e2
      cases rx
      cases ry
      by_cases hab : ax = ay
      · subst hab
        exact SeqAt.EqAt.same (A := A) (s := s) (.ref ax) X.prog X.w X.xe _ ⟨rfl, F1, ρ1, H1, I1, r1, g1⟩
      · obtain ⟨f, fd, ps, ds, dvs, Fn, hn, hbd, hd, hw, hs, hf, _⟩ := (hΓ C c1').ex
        have p' : Post (OkE ⟨X.K, cl⟩ F1 ρ1 H1 (fun v H' => v = .bl true ∧ ∃ F2 ρ2, R ⟨X.K, cl⟩ F2 ρ2 m H' ∧ Go F ρ H F2 ρ2 H')) (OkX ⟨X.K, cl⟩ F1 ρ1 H1 fun k d H' => Wx k d σ H') (Γ C ([wx, wy] ++ []) m) := by
          show Post _ _ (Γ C [wx, wy] m)
          rw [p]
          exact fun v F' ρ' H' r' g' q' => ⟨q', F', ρ', r', g1.trans g'⟩
        obtain ⟨fm, fr⟩ := I1.fr
        refine GQ.eqBool_refG hab (PySem.W.cmp_K (op := .Eq) hr.units0 fr I1.mod.kin J1 J2.type (hT.nf C c1' D c2') hs hf
          (thn (run_MA (A := A) (us := [.ref ax, .ref ay]) (vs := [.ref ax, .ref ay]) Fn hr hfr hbd hd hw tk I1 (.cons rfl (.cons rfl .nil)) r1 (.cons q1' (.cons q2' .nil)) (by rw [hn]; rfl) p') fun u s' z => ?_))
        obtain ⟨v, H', I', rv, rfl, F2, ρ2, r2, g2⟩ := z
        cases rv
        exact ⟨true, rfl, rfl, F2, ρ2, H', I', r2, g2⟩
    · cases p
  · cases p
theorem listI_of (hT : EqT X.K cl T) (hΓ : ∀ C ∈ T, CalM X.prog X.w X.K X.mg X.base cl k C "__eq__" 2 [] (Γ C)) (hr : Room (k + 1) X.A) (tk : Takes X Wx) {a b : Addr} {xs ys : List W} {vs us : List V} (ha : Rd F a (.lst vs)) (hb : Rd F b (.lst us)) (t1 : RWs ⟨X.K, cl⟩ F ρ xs vs) (t2 : RWs ⟨X.K, cl⟩ F ρ ys us) (he : AllEq T Γ m xs ys) :
    GQ.ListI X.prog X.w X.A X.xe a b xs.length (fun _ s => LI cl X pins σ F ρ H m s) := by
  intro i s l
  obtain ⟨F1, ρ1, H1, I1, r1, g1⟩ := id l
  obtain ⟨z, its, n, rv, e⟩ := (rd_mono (g1.ff.trans r1.sub) ha).ok I1.hok
  obtain ⟨z2, its2, n2, rv2, e2⟩ := (rd_mono (g1.ff.trans r1.sub) hb).ok I1.hok
  have l1 := t1.length
  have l2 := t2.length
  have l3 := rv.length
  have l4 := rv2.length
  refine ⟨its.toArray, its2.toArray, n, n2, e, e2, by rw [List.size_toArray]; omega, by rw [List.size_toArray]; have := he.1; omega, fun h1 h2 => ?_⟩
  have h1' : i < its.length := by simpa using h1
  have h2' : i < its2.length := by simpa using h2
  have k1 : i < xs.length := by omega
  have k2 : i < ys.length := by have := he.1; omega
  obtain ⟨v1, b1, b2⟩ := t1.get (List.getElem?_eq_getElem k1)
  obtain ⟨v2, b3, b4⟩ := t2.get (List.getElem?_eq_getElem k2)
  obtain ⟨u1, c1, c2⟩ := rv.get b1
  obtain ⟨u2, c3, c4⟩ := rv2.get b3
  have d1 : its.toArray[i] = u1 := by
    rw [List.getElem?_eq_getElem h1'] at c1
    simpa using Option.some.inj c1
  have d2 : its2.toArray[i] = u2 := by
    rw [List.getElem?_eq_getElem h2'] at c3
    simpa using Option.some.inj c3
  rw [d1, d2]
  exact turnM hT hΓ hr.in1 rfl tk b2 b4 c2 c4 (he.2 i _ _ (List.getElem?_eq_getElem k1) (List.getElem?_eq_getElem k2)) l
theorem m_eqL (hT : EqT X.K cl T) (hΓ : ∀ C ∈ T, CalM X.prog X.w X.K X.mg X.base cl k C "__eq__" 2 [] (Γ C)) (hr : Room (k + 1) X.A) (tk : Takes X Wx) : CmpM ⟨X.K, cl⟩ X Wx .Eq (lstM true T Γ) := by
  intro pins s2 σ H2 x y v u Q I2 rx ry q
  obtain ⟨F, ρ, m, wx, wy, r, q1, q2, p⟩ := q
  unfold lstM at p
  split at p
  · rename_i xs ys
    split at p
    · rename_i he
      unfold RW at q1 q2
      obtain ⟨a, vs, rfl, h1, t1⟩ := q1
      obtain ⟨b, us, rfl, h2, t2⟩ := q2
      cases rx
      cases ry
      refine PySem.W.cmp_ofEq (GQ.rc_listG hr.units0 (fun _ s => LI cl X pins σ F ρ H2 m s) (listI_of hT hΓ hr tk h1 h2 t1 t2 he) (fun s l => ?_) ⟨F, ρ, H2, I2, r, .refl⟩)
      obtain ⟨F1, ρ1, H1, I1, r1, g1⟩ := l
      exact ⟨.bl true, H1, I1, rfl, p _ F1 ρ1 H1 r1 g1 rfl⟩
    · exact p.elim
  · exact p.elim
theorem m_neL (hT : EqT X.K cl T) (hΓ : ∀ C ∈ T, CalM X.prog X.w X.K X.mg X.base cl k C "__eq__" 2 [] (Γ C)) (hr : Room (k + 1) X.A) (tk : Takes X Wx) : CmpM ⟨X.K, cl⟩ X Wx .NotEq (lstM false T Γ) := by
  intro pins s2 σ H2 x y v u Q I2 rx ry q
  obtain ⟨F, ρ, m, wx, wy, r, q1, q2, p⟩ := q
  unfold lstM at p
  split at p
  · rename_i xs ys
    split at p
    · rename_i he
      unfold RW at q1 q2
      obtain ⟨a, vs, rfl, h1, t1⟩ := q1
      obtain ⟨b, us, rfl, h2, t2⟩ := q2
      cases rx
      cases ry
      refine PySem.W.cmp_ofNotEq (rc_listN hr.units0 (fun _ s => LI cl X pins σ F ρ H2 m s) (listI_of hT hΓ hr tk h1 h2 t1 t2 he) (fun s l => ?_) ⟨F, ρ, H2, I2, r, .refl⟩)
      obtain ⟨F1, ρ1, H1, I1, r1, g1⟩ := l
      exact ⟨.bl false, H1, I1, rfl, p _ F1 ρ1 H1 r1 g1 rfl⟩
    · exact p.elim
  · exact p.elim
end
end Sm

/-! S34: the tables of a law in one; short forms of the rules. -/
namespace Sm
open PySem PySem.Spec PyProof.Rows L2

/-- what the text of a law tells of its defs and classes -/
structure Tb where
  fn : List (Str × Nat × List W × Nat)
  ini : List (Str × Nat × List W × Nat)
  met : List (Str × Str × Nat × List W × Nat)
  ats : Ats
  tc : List Str
  kt : Kt
  bl : List Str
  gs : List (Str × Str)
/-- the worths one level deeper -/
structure Gam where
  f : Nat → List W → M W
  i : Nat → MO → List W → M MO
  m : Nat → Str → List W → M W
structure Hy (P : Program) (w : World) (K : PySem.W.Frag) (mg : Str → Option Value) (base : Heap) (cl : Str → Addr) (k : Nat) (t : Tb) (g : Gam) : Prop where
  fn : ∀ p ∈ t.fn, Cal P w K mg base cl k p.1 p.2.1 p.2.2.1 (g.f p.2.2.2)
  ini : ∀ p ∈ t.ini, CalI P w K mg base cl k p.1 p.2.1 p.2.2.1 (g.i p.2.2.2)
  met : ∀ p ∈ t.met, CalM P w K mg base cl k p.1 p.2.1 p.2.2.1 p.2.2.2.1 (g.m p.2.2.2.2 p.1)
structure Fx (K : PySem.W.Frag) (mg : Str → Option Value) (cl : Str → Addr) (t : Tb) : Prop where
  nog : NoG mg t.bl
  at_ : AtOk K cl t.ats
  tc : TcOk K cl t.tc
  kt : KtOk K cl t.kt
  cls : ∀ C ∈ t.tc, mg C = some (.ref (cl C))
  gs : ∀ p ∈ t.gs, ∃ tk, mg p.1 = some (.str p.2 tk)
section
variable {P : Program} {w : World} {K : PySem.W.Frag} {mg : Str → Option Value} {base : Heap} {cl : Str → Addr} {k : Nat} {t : Tb} {g : Gam}
theorem Hy.fnAt (h : Hy P w K mg base cl k t g) (i : Nat) {x : Str} {n j : Nat} {d : List W} (e : t.fn[i]? = some (x, n, d, j) := by rfl) : Cal P w K mg base cl k x n d (g.f j) := h.fn _ (List.mem_of_getElem? e)
theorem Hy.iniAt (h : Hy P w K mg base cl k t g) (i : Nat) {C : Str} {n j : Nat} {d : List W} (e : t.ini[i]? = some (C, n, d, j) := by rfl) : CalI P w K mg base cl k C n d (g.i j) := h.ini _ (List.mem_of_getElem? e)
theorem Hy.metAt (h : Hy P w K mg base cl k t g) (i : Nat) {C m : Str} {n j : Nat} {d : List W} (e : t.met[i]? = some (C, m, n, d, j) := by rfl) : CalM P w K mg base cl k C m n d (g.m j C) := h.met _ (List.mem_of_getElem? e)
/-- one method of many classes -/
theorem Hy.metsOf (h : Hy P w K mg base cl k t g) {m : Str} {n j : Nat} {T : List Str} (e : (T.all fun C => t.met.any fun p => p.1 == C && p.2.1 == m && p.2.2.1 == n && p.2.2.2.1.isEmpty && p.2.2.2.2 == j) = true) : ∀ C ∈ T, CalM P w K mg base cl k C m n [] (g.m j C) := fun C hC => by
  obtain ⟨⟨a, b, c, d, i⟩, h1, h2⟩ := List.any_eq_true.mp (List.all_eq_true.mp e C hC)
  simp only [Bool.and_eq_true, beq_iff_eq, List.isEmpty_iff] at h2
  obtain ⟨⟨⟨⟨rfl, rfl⟩, rfl⟩, rfl⟩, rfl⟩ := h2
  exact h.met _ h1
end
section
variable {K : PySem.W.Frag} {cl : Str → Addr} {t : Tb} {X : Cx} {Wx : WX} {e e2 : Expr} {f f2 : Fe} {p pos : Pos} {x : Str}
theorem s_gs (h : Fx X.K X.mg cl t) (i : Nat) {z : Str} (e : t.gs[i]? = some (x, z) := by rfl) (hg : Gl X x := by rfl) (hd : (x == ("__debug__" : Str)) = false := by decide) : SE ⟨X.K, cl⟩ X Wx (.Name x pos) (eC (.str z)) := by
  obtain ⟨tk, hm⟩ := h.gs _ (List.mem_of_getElem? e)
  exact s_gstr hm hg hd
theorem s_cl (h : Fx X.K X.mg cl t) (i : Nat) (e : t.tc[i]? = some x := by rfl) (hg : Gl X x := by rfl) (hd : (x == ("__debug__" : Str)) = false := by decide) : SE ⟨X.K, cl⟩ X Wx (.Name x pos) (eC (.cls x)) := s_cls (h.cls _ (List.mem_of_getElem? e)) hg hd
theorem s_isi (h : Fx X.K X.mg cl t) (i : Nat) (ha : SR ⟨X.K, cl⟩ X Wx e f) (hb : SR ⟨X.K, cl⟩ X Wx e2 f2) (eb : t.bl[i]? = some ("isinstance" : Str) := by rfl) (hg : Gl X "isinstance" := by rfl) (h1 : starEach [e, e2] X.env = (false, eval e X.env) :: starEach [e2] X.env := by rfl) (h2 : starEach [e2] X.env = (false, eval e2 X.env) :: starEach [] X.env := by rfl) (hpl : (backTo pos (starEach [e2] X.env)).any (·.1) = false := by rfl) :
    SE ⟨X.K, cl⟩ X Wx (.Call (.Name "isinstance" p) [e, e2] [] pos) (eBlt (isiW t.tc t.kt) (aCons f (aCons f2 aNil))) := s_blt (c_isi h.tc h.kt) (ar_cons ha (ar_cons hb ar_nil h2) h1) (h.nog.at i eb) (by kernel_rfl) hg (by decide) (by decide) h1 hpl
theorem s_all (h : Fx X.K X.mg cl t) (i : Nat) (hc : X.calm = true) (ha : SR ⟨X.K, cl⟩ X Wx e f) (eb : t.bl[i]? = some ("all" : Str) := by rfl) (hg : Gl X "all" := by rfl) (h1 : starEach [e] X.env = (false, eval e X.env) :: starEach [] X.env := by rfl) (hpl : (backTo pos (starEach [] X.env)).any (·.1) = false := by rfl) :
    SE ⟨X.K, cl⟩ X Wx (.Call (.Name "all" p) [e] [] pos) (eBlt allW (aCons f aNil)) := s_blt (c_all hc) (ar_cons ha ar_nil h1) (h.nog.at i eb) (by kernel_rfl) hg (by decide) (by decide) h1 hpl
end
/-- the operators of the classes T -/
structure Ox (K : PySem.W.Frag) (cl : Str → Addr) (T : List Str) : Prop where
  op_Add : OpT K cl (Operator.info .Add).2 T
  op_BitOr : OpT K cl (Operator.info .BitOr).2 T
  op_BitAnd : OpT K cl (Operator.info .BitAnd).2 T
  op_Mult : OpT K cl (Operator.info .Mult).2 T
  opi_Mult : OpI K cl (Operator.info .Mult).2 T
  ni_Add : ∀ C ∈ T, noI K (cl C) (Operator.info .Add).2 = true
  ni_BitOr : ∀ C ∈ T, noI K (cl C) (Operator.info .BitOr).2 = true
  ni_BitAnd : ∀ C ∈ T, noI K (cl C) (Operator.info .BitAnd).2 = true
  ni_Mult : ∀ C ∈ T, noI K (cl C) (Operator.info .Mult).2 = true
  eq : EqT K cl T
  cls : ∀ C ∈ T, Cls K (cl C)
end Sm

/-! S35: is, is not of bools. -/
namespace Sm
open PySem PySem.Spec PyProof.Rows L2
def isBW : W → W → Sto → Option W
  | .bl a, .bl b, _ => some (.bl (a == b))
  | _, _, _ => none
def notBW : W → W → Sto → Option W
  | .bl a, .bl b, _ => some (.bl (!(a == b)))
  | _, _, _ => none
section
variable {c : Cn} {X : Cx}
theorem o_isB : OpR X (compareOp .Is) (rS c isBW) := by
  intro pins s σ H x y v u Q I rx ry h
  obtain ⟨F, ρ, m, w1, w2, w, r, q1, q2, e, k⟩ := h
  unfold isBW at e
  split at e
  · rename_i a b
    cases e
    have e1 := q1.bl
    have e2 := q2.bl
    subst e1 e2
    cases rx
    cases ry
    show wpAny _ _ (isSame (.bool a) (.bool b) >>= fun r => pure (Value.bool r)) _ _ _
    refine wpAny_bind (wpAny_of_eq (show isSame (.bool a) (.bool b) = pure (a == b) from by cases a <;> cases b <;> rfl) (wpAny_pure ⟨.bl (a == b), H, I, rfl, k _ F ρ H r .refl rfl⟩))
  · cases e
theorem o_notB : OpR X (compareOp .IsNot) (rS c notBW) := by
  intro pins s σ H x y v u Q I rx ry h
  obtain ⟨F, ρ, m, w1, w2, w, r, q1, q2, e, k⟩ := h
  unfold notBW at e
  split at e
  · rename_i a b
    cases e
    have e1 := q1.bl
    have e2 := q2.bl
    subst e1 e2
    cases rx
    cases ry
    show wpAny _ _ (isSame (.bool a) (.bool b) >>= fun r => pure (Value.bool (!r))) _ _ _
    refine wpAny_bind (wpAny_of_eq (show isSame (.bool a) (.bool b) = pure (a == b) from by cases a <;> cases b <;> rfl) (wpAny_pure ⟨.bl (!(a == b)), H, I, rfl, k _ F ρ H r .refl rfl⟩))
  · cases e
end
/-- a, b, c = x, y, z -/
def sPar3 (i j l : Nat) (g : Fas) : Fs := fun τ m => exS (g τ m) τ fun ws m' => match ws with
  | [u, v, w] => .ok (.nx (((τ.set i (.val u)).set j (.val v)).set l (.val w))) m'
  | _ => .bad
section
variable {c : Cn} {X : Cx} {Wx : WX} {B : Bs} {g : Fas} {pos : Pos}
theorem x_par3 {i j l : Nat} {x y z : Str} {px py pz pt pt2 : Pos} {kt k2} {a b d : Expr} (hc : X.calm = true) (hN : X.N.Nodup) (hij : i ≠ j) (hil : i ≠ l) (hjl : j ≠ l) (ha : SA c X Wx [a, b, d] g) (hi : X.N[i]? = some x := by rfl) (hj : X.N[j]? = some y := by rfl) (hl : X.N[l]? = some z := by rfl)
    (hx : X.env.scope.names.lookup x = some .local := by rfl) (hy : X.env.scope.names.lookup y = some .local := by rfl) (hz : X.env.scope.names.lookup z = some .local := by rfl)
    (hw : swappedStores [.Tuple [.Name x px, .Name y py, .Name z pz] kt pt] (.Tuple [a, b, d] k2 pt2) X.env = pure (some [x, y, z]) := by rfl) (hs : swapsWithSole [.Tuple [.Name x px, .Name y py, .Name z pz] kt pt] (.Tuple [a, b, d] k2 pt2) pos.line X.env = pure false := by rfl) :
    SX c X Wx B (.Assign [.Tuple [.Name x px, .Name y py, .Name z pz] kt pt] (.Tuple [a, b, d] k2 pt2) pos) (sPar3 i j l g) :=
  PS.weak (ps_par3 hc hN hi hj hl hij hil hjl hx hy hz ha hw hs) fun D σ H ⟨F, ρ, m, τ, fr, p⟩ => useA fr p fun ws m' vs F' ρ' H' fr' r q => by
    match ws, q, r with
    | [u, v, t], q, r =>
      obtain ⟨v1, r1, rfl, h1, t1⟩ := r.inv
      obtain ⟨v2, r2, rfl, h2, t2⟩ := t1.inv
      obtain ⟨v3, r3, rfl, h3, t3⟩ := t2.inv
      have e : r3 = [] := t3
      subst e
      exact ⟨v1, v2, v3, rfl, q _ _ _ _ (((fr'.setv h1).setv h2).setv h3)⟩
    | [], q, _ => exact q.elim
    | [_], q, _ => exact q.elim
    | [_, _], q, _ => exact q.elim
    | _ :: _ :: _ :: _ :: _, q, _ => exact q.elim
end
end Sm

/-! S36: what the run of the text tells of the fragment. -/
namespace Sm
open PySem PySem.Spec PyProof.Rows L2
abbrev FnU : Type := Option (Str × Str × Arguments × FuncBody × Scope × Addr × Addr)
def fnU (K : PySem.W.Frag) (p : Str × Option Str) : FnU := match K.lookup (He.fAd K p) with
  | some ⟨_, _, .func fd, _⟩ => some (fd.name, fd.qualname, fd.params, fd.body, fd.scope, fd.globals, fd.builtins)
  | _ => none
/-- a def of the text: where it stands, what it is -/
structure DefU where
  at_ : Str × Option Str
  name : Str
  qual : Str
  params : Arguments
  body : List Stmt
  scope : Scope
def DefU.val (d : DefU) : FnU := some (d.name, d.qual, d.params, .stmts d.body, d.scope, mainGlobals, builtinsNs)
abbrev AlU : Type := Bool × List FnU
def obsU (B : PySem.W.Frag → Bool) (ds : List DefU) (K : PySem.W.Frag) : AlU := (B K, ds.map fun d => fnU K d.at_)
def valU (ds : List DefU) : AlU := (true, ds.map DefU.val)
def SaysU (B : PySem.W.Frag → Bool) (ds : List DefU) (K : PySem.W.Frag) : Prop := obsU B ds K = valU ds
/-- reached from the module's names (and the machine's own dict that super() asks) in n steps -/
def asU (g : Addr → Option Obj) : Nat → List Addr
  | 0 => [mainGlobals, cStatics]
  | n + 1 => He.growD g (asU g n)
def obsUG (n : Nat) (B : PySem.W.Frag → Bool) (ds : List DefU) (g : Addr → Option Obj) : AlU := obsU B ds (He.frG g (asU g n))
def hookU (n : Nat) (B : PySem.W.Frag → Bool) (ds : List DefU) : PySem.W.Hook where
  α := AlU
  obs := fun s => obsUG n B ds s.heap.get?
  val := fun _ => valU ds
  says := fun _ h => ∃ K : PySem.W.Frag, K.In h ∧ SaysU B ds K
  of := fun _ _ e => ⟨_, He.frG_in, e⟩
  keeps := fun _ _ _ ⟨K, hK, c⟩ k => ⟨K, PySem.W.Frag.In.keeps hK k, c⟩
theorem obsUG_eq {n : Nat} {B : PySem.W.Frag → Bool} {ds : List DefU} {g : Addr → Option Obj} {s : Shared} (h : ∀ a, g a = s.heap.get? a) : obsUG n B ds g = (hookU n B ds).obs s := by
  have e : g = s.heap.get? := funext h
  rw [e] <;> rfl
section
variable {B : PySem.W.Frag → Bool} {ds : List DefU} {K : PySem.W.Frag}
theorem SaysU.b (c : SaysU B ds K) : B K = true := congrArg (fun z : AlU => z.1) c
theorem SaysU.d (c : SaysU B ds K) (i : Nat) {d : DefU} (h : ds[i]? = some d := by rfl) : fnU K d.at_ = d.val := by
  have e : ds.map (fun d => fnU K d.at_) = ds.map DefU.val := congrArg (fun z : AlU => z.2) c
  have e2 : (ds.map fun d => fnU K d.at_)[i]? = (ds.map DefU.val)[i]? := by rw [e]
  rw [List.getElem?_map, List.getElem?_map, h] at e2
  exact Option.some.inj e2
end
/-- a plain def, with its defaults -/
def defB (K : PySem.W.Frag) (p : Str × Option Str) (qual : Str) (dvs : List V) : Bool := PySem.W.keepIn K (.ref (He.fAd K p)) && (match K.lookup (He.fAd K p) with
  | some ⟨_, _, .func fd, _⟩ => fd.closure.isEmpty && (PySem.W.codeIn K fd.code qual && (He.dflB K fd.defaults dvs && He.kwdB K fd.kwdefaults []))
  | _ => false)
theorem funD_of {K : PySem.W.Frag} {d : DefU} {dvs : List V} (e : fnU K d.at_ = d.val) (c : defB K d.at_ d.qual dvs = true) : ∃ fd, FunD K d.name d.qual d.params d.body d.scope dvs [] (He.fAd K d.at_) fd := by
  obtain ⟨kp, c2⟩ := He.ba c
  unfold fnU at e
  cases q : K.lookup (He.fAd K d.at_) with
  | none =>
    rw [q] at c2
    cases c2
  | some o =>
    obtain ⟨oc, od, dt, osl⟩ := o
    rw [q] at c2 e
    cases dt with
    | func fd =>
      obtain ⟨n1, n2, n3, n4, n5, n6, n7, n8, n9, n10, n11, n12, n13, n14, n15⟩ := fd
      have e2 : (some (n1, n2, n3, n4, n5, n6, n15) : FnU) = some (d.name, d.qual, d.params, .stmts d.body, d.scope, mainGlobals, builtinsNs) := e
      simp only [Option.some.injEq, Prod.mk.injEq] at e2
      obtain ⟨h1, h2, h3, h4, h5, h6, h8⟩ := e2
      subst h1 h2 h3 h4 h5 h6 h8
      have c3 : (n7.isEmpty && (PySem.W.codeIn K n13 d.qual && (He.dflB K n8 dvs && He.kwdB K n9 []))) = true := c2
      obtain ⟨k0, k1'⟩ := He.ba c3
      obtain ⟨k1, k2⟩ := He.ba k1'
      obtain ⟨k3, k4⟩ := He.ba k2
      have e7 : n7 = [] := List.isEmpty_iff.mp k0
      subst e7
      exact ⟨_, ⟨oc, od, n8, n9, n10, n11, n12, n13, n14, osl, rfl, q, k1, He.dflB_ok k3, He.kwdB_ok k4⟩, kp⟩
    | _ => cases c2
/-- a def of the class C that says super() -/
def supB (K : PySem.W.Frag) (file C : Str) (p : Str × Option Str) (qual : Str) (dvs : List V) : Bool := match K.lookup (He.fAd K p) with
  | some ⟨_, _, .func fd, _⟩ => (match fd.closure with
    | [(n, cc)] => decide (n = ("__class__" : Str)) && (match K.lookup cc with
      | some ⟨_, _, .cell (some (.ref D)), _⟩ => decide (D = He.ga K C)
      | _ => false)
    | _ => false) && (PySem.W.codeIn K fd.code qual && ((match fd.code with
    | .ref cda => (match K.lookup cda with
      | some ⟨_, _, .fields vs, _⟩ => (match ((vs : Array Value)[(2 : Nat)]? : Option Value) with
        | some (.str f _) => f == file
        | _ => false)
      | _ => false)
    | _ => false) && ((PySem.W.clsIn K (He.ga K C)).isSome && He.dflB K fd.defaults dvs)))
  | _ => false
theorem funS_of {P : Program} {K : PySem.W.Frag} {d : DefU} {file C : Str} {dvs : List V} (hf : (P.main.file : Str) = file) (e : fnU K d.at_ = d.val) (c : supB K file C d.at_ d.qual dvs = true) : ∃ fd cc cda, FunS P K d.name d.qual d.params d.body d.scope (He.fAd K d.at_) fd cc (He.ga K C) cda ∧ DflV K fd.defaults dvs := by
  unfold fnU at e
  unfold supB at c
  cases q : K.lookup (He.fAd K d.at_) with
  | none =>
    rw [q] at c
    cases c
  | some o =>
    obtain ⟨oc, od, dt, osl⟩ := o
    rw [q] at c e
    cases dt with
    | func fd =>
      obtain ⟨n1, n2, n3, n4, n5, n6, n7, n8, n9, n10, n11, n12, n13, n14, n15⟩ := fd
      have e2 : (some (n1, n2, n3, n4, n5, n6, n15) : FnU) = some (d.name, d.qual, d.params, .stmts d.body, d.scope, mainGlobals, builtinsNs) := e
      simp only [Option.some.injEq, Prod.mk.injEq] at e2
      obtain ⟨h1, h2, h3, h4, h5, h6, h8⟩ := e2
      subst h1 h2 h3 h4 h5 h6 h8
      dsimp only at c
      obtain ⟨c1, c2⟩ := He.ba c
      obtain ⟨c3, c4⟩ := He.ba c2
      obtain ⟨c5, c6'⟩ := He.ba c4
      obtain ⟨c6, c9⟩ := He.ba c6'
      split at c1
      rotate_left
      · cases c1
      rename_i nn cc
      obtain ⟨c7, c8⟩ := He.ba c1
      have en : nn = ("__class__" : Str) := of_decide_eq_true c7
      subst en
      split at c8
      rotate_left
      · cases c8
      rename_i oc2 od2 D osl2 q2
      have eD : D = He.ga K C := of_decide_eq_true c8
      subst eD
      split at c5
      rotate_left
      · cases c5
      rename_i cda
      split at c5
      rotate_left
      · cases c5
      rename_i oc3 od3 vs osl3 q3
      split at c5
      rotate_left
      · cases c5
      rename_i ff tf q4
      have ef : ff = file := by simpa using c5
      obtain ⟨cd, hcd⟩ := Option.isSome_iff_exists.mp c6
      exact ⟨_, cc, cda, ⟨⟨oc, od, n8, n9, n10, n11, n12, n14, osl, rfl, q⟩, c3, ⟨oc3, od3, vs, osl3, ff, tf, q3, q4, by rw [hf, ef]; simp⟩, ⟨oc2, od2, osl2, q2⟩, ⟨cd, hcd⟩⟩, He.dflB_ok c9⟩
    | _ => cases c
/-! ### binding -/
section
variable {K : PySem.W.Frag} {fd : FuncData} {ps : List Str} {dvs : List V}
/-- all but the last are given, the defaults from the j-th on fill up -/
theorem binds_d (hD : DflV K fd.defaults dvs) (n j : Nat) (hd : dvs ≠ []) (hn : n + (dvs.length - j) = ps.length)
    (h : ∀ (T : Addr) (us its : List Value), fd.defaults = .ref T → us.length = n → its.length = dvs.length → ∃ k, bindArgs fd ⟨us, []⟩ = seqItems? (.ref T) >>= k ∧ k (some its.toArray) = pure (ps.zip (us ++ its.drop j))) : ∃ ds, Vals (dvs.drop j) ds ∧ Binds K fd ps ds := by
  rcases hD with ⟨e, _⟩ | ⟨_, T, o, its, m, eT, lT, oT, rT⟩
  · exact absurd e hd
  · refine ⟨its.drop j, rT.drop j, fun s us X hlen => ?_⟩
    have l1 : its.length = dvs.length := rT.length.symm
    have l2 : us.length = n := by
      rw [List.length_append, List.length_drop, l1] at hlen
      omega
    obtain ⟨k, e1, e2⟩ := h T us its eT l2 l1
    refine BindsTo.of_looks fun M => ?_
    rw [e1]
    exact looks_items X lT oT (.of_pure e2)
end
end Sm

/-! S37: the facts of the tables, as Bools over the fragment. -/
namespace Sm
open PySem PySem.Spec PyProof.Rows L2
def eqB1 (a b : Option Bool) : Bool := decide (a = b)
def tycB (K : PySem.W.Frag) (C : Str) : Bool := (He.Fa.cls C).ok K && (He.eqO (PySem.W.findIn K (.ref (He.ga K C)) "__class__") (some (some (.builtin "object.__class__"))) && (He.eqO (PySem.W.specialIn K (.builtin "object.__class__") "__get__") (some (some (.builtin "getset_descriptor.__get__")))
  && (eqB1 (PySem.W.takesIn K (.builtin "object.__class__")) (some true) && eqB1 (PySem.W.mroIn K (He.ga K C) (.type "object")) (some true))))
def FxB (K : PySem.W.Frag) (t : Tb) : Bool := (t.bl.all fun x => (He.Fa.free x).ok K) && ((t.ats.all fun p => (He.Fa.cls p.1).ok K && p.2.all fun f => (He.Fa.noat p.1 f).ok K) && ((t.tc.all fun C => tycB K C) &&
  ((t.kt.all fun p => eqB1 (PySem.W.kitOne K (tyV (He.ga K) p.1.1) (tyV (He.ga K) p.1.2)) (some p.2)) && ((t.tc.all fun C => (He.Fa.glo C).ok K) && t.gs.all fun p => (He.Fa.str p.1 p.2).ok K))))
theorem Fx_of {K : PySem.W.Frag} {h : Heap} {mg : Str → Option Value} {t : Tb} (X : K.In h) (G : h.Ns mainGlobals mg) (b : FxB K t = true) : Fx K mg (He.ga K) t := by
  unfold FxB at b
  obtain ⟨b1, b⟩ := He.ba b
  obtain ⟨b2, b⟩ := He.ba b
  obtain ⟨b3, b⟩ := He.ba b
  obtain ⟨b4, b⟩ := He.ba b
  obtain ⟨b5, b6⟩ := He.ba b
  refine ⟨fun x hx => He.free_ok X G (List.all_eq_true.mp b1 x hx), fun p hp => ?_, fun C hC => ?_, fun p hp => of_decide_eq_true (List.all_eq_true.mp b4 p hp), fun C hC => He.glo_ok X G (List.all_eq_true.mp b5 C hC), fun p hp => He.str_ok X G (List.all_eq_true.mp b6 p hp)⟩
  · obtain ⟨c1, c2⟩ := He.ba (List.all_eq_true.mp b2 p hp)
    exact ⟨He.cls_ok c1, fun f hf => He.noat_ok (List.all_eq_true.mp c2 f hf)⟩
  · have c := List.all_eq_true.mp b3 C hC
    unfold tycB at c
    obtain ⟨c1, c⟩ := He.ba c
    obtain ⟨c2, c⟩ := He.ba c
    obtain ⟨c3, c⟩ := He.ba c
    obtain ⟨c4, c5⟩ := He.ba c
    exact ⟨He.cls_ok c1, He.eqO_ok c2, He.eqO_ok c3, of_decide_eq_true c4, of_decide_eq_true c5⟩
/-! ### operators -/
def opB (K : PySem.W.Frag) (nm : String) (T : List Str) : Bool := (T.all fun C => PySem.W.selfFirst K (He.ga K C)) && ((T.all fun C => He.eqO (PySem.W.findIn K (.ref (He.ga K C)) (dunderR nm)) (some none)) &&
  (T.all fun C => T.all fun D => decide (He.ga K D = He.ga K C) || eqB1 (PySem.W.subIn K (.ref (He.ga K D)) (.ref (He.ga K C))) (some false)))
theorem op_of {K : PySem.W.Frag} {nm : String} {T : List Str} (b : opB K nm T = true) : OpT K (He.ga K) nm T := by
  unfold opB at b
  obtain ⟨b1, b⟩ := He.ba b
  obtain ⟨b2, b3⟩ := He.ba b
  refine ⟨fun C hC => List.all_eq_true.mp b1 C hC, fun C hC => He.eqO_ok (List.all_eq_true.mp b2 C hC), fun C hC D hD => ?_⟩
  rcases Bool.or_eq_true_iff.mp (List.all_eq_true.mp (List.all_eq_true.mp b3 C hC) D hD) with e | e
  · exact .inl (of_decide_eq_true e)
  · exact .inr (of_decide_eq_true e)
def opiB (K : PySem.W.Frag) (nm : String) (T : List Str) : Bool := (PySem.W.findIn K (.type "int") (PySem.dunder nm)).isSome && ((PySem.W.findIn K (.type "int") (dunderR nm)).isSome && T.all fun C => eqB1 (PySem.W.subIn K (.type "int") (.ref (He.ga K C))) (some false))
theorem opi_of {K : PySem.W.Frag} {nm : String} {T : List Str} (b : opiB K nm T = true) : OpI K (He.ga K) nm T := by
  unfold opiB at b
  obtain ⟨b1, b⟩ := He.ba b
  obtain ⟨b2, b3⟩ := He.ba b
  exact ⟨Option.isSome_iff_exists.mp b1, Option.isSome_iff_exists.mp b2, fun C hC => of_decide_eq_true (List.all_eq_true.mp b3 C hC)⟩
def eqtB (K : PySem.W.Frag) (T : List Str) : Bool := (T.all fun C => T.all fun D => PySem.W.notFirst K (He.ga K C) (.ref (He.ga K D))) && ((T.all fun C => eqB1 (PySem.W.mroIn K (He.ga K C) (.type "object")) (some true)) && T.all fun C => He.eqO (PySem.W.findIn K (.ref (He.ga K C)) "__ne__") (some (some (.builtin "object.__ne__"))))
theorem eqt_of {K : PySem.W.Frag} {T : List Str} (b : eqtB K T = true) : EqT K (He.ga K) T := by
  unfold eqtB at b
  obtain ⟨b1, b⟩ := He.ba b
  obtain ⟨b2, b3⟩ := He.ba b
  exact ⟨fun C hC D hD => List.all_eq_true.mp (List.all_eq_true.mp b1 C hC) D hD, fun C hC => of_decide_eq_true (List.all_eq_true.mp b2 C hC), fun C hC => He.eqO_ok (List.all_eq_true.mp b3 C hC)⟩
def OxB (K : PySem.W.Frag) (T : List Str) : Bool := opB K (Operator.info .Add).2 T && (opB K (Operator.info .BitOr).2 T && (opB K (Operator.info .BitAnd).2 T && (opB K (Operator.info .Mult).2 T && (opiB K (Operator.info .Mult).2 T &&
  ((T.all fun C => noI K (He.ga K C) (Operator.info .Add).2) && ((T.all fun C => noI K (He.ga K C) (Operator.info .BitOr).2) && ((T.all fun C => noI K (He.ga K C) (Operator.info .BitAnd).2) && ((T.all fun C => noI K (He.ga K C) (Operator.info .Mult).2) && (eqtB K T && T.all fun C => (He.Fa.cls C).ok K)))))))))
theorem Ox_of {K : PySem.W.Frag} {T : List Str} (b : OxB K T = true) : Ox K (He.ga K) T := by
  unfold OxB at b
  obtain ⟨b1, b⟩ := He.ba b
  obtain ⟨b2, b⟩ := He.ba b
  obtain ⟨b3, b⟩ := He.ba b
  obtain ⟨b4, b⟩ := He.ba b
  obtain ⟨b5, b⟩ := He.ba b
  obtain ⟨b6, b⟩ := He.ba b
  obtain ⟨b7, b⟩ := He.ba b
  obtain ⟨b8, b⟩ := He.ba b
  obtain ⟨b9, b⟩ := He.ba b
  obtain ⟨b10, b11⟩ := He.ba b
  exact ⟨op_of b1, op_of b2, op_of b3, op_of b4, opi_of b5, fun C hC => List.all_eq_true.mp b6 C hC, fun C hC => List.all_eq_true.mp b7 C hC, fun C hC => List.all_eq_true.mp b8 C hC, fun C hC => List.all_eq_true.mp b9 C hC, eqt_of b10, fun C hC => He.cls_ok (List.all_eq_true.mp b11 C hC)⟩
end Sm

/-! S38: the facts of super().__init__, as Bools. -/
namespace Sm
open PySem PySem.Spec PyProof.Rows L2
def supFB (K : PySem.W.Frag) (b C : Str) : Bool := eqB1 (PySem.W.mroIn K (He.ga K C) (.ref (He.ga K C))) (some true) && (He.eqO (PySem.W.nsIn K cStatics "thirdparty.any") (some none) && (He.eqO (PySem.W.ks_superIn K (He.ga K C) (He.ga K C) "__init__") (some (some (.ref (He.fAd K (b, some "__init__"))))) &&
  (decide (PySem.W.typeIn K (.ref (He.fAd K (b, some "__init__"))) = some (.type "function")) && PySem.W.fnIn K (He.fAd K (b, some "__init__")))))
theorem sup_of {P : Program} {w : World} {K : PySem.W.Frag} {mg : Str → Option Value} {base : Heap} {k : Nat} {b C : Str} {n : Nat} {γ : MO → List W → M MO} {fd : FuncData} {ps : List Str} (h : supFB K b C = true) (top : (P.main.scope.names.lookup ("super" : Str)).isSome = false) (hm : mg "super" = none)
    (F : FnOk P w K mg base (CX P w) k (He.fAd K (b, some "__init__")) fd ps (spI ⟨K, He.ga K⟩ ps.length γ)) (hn : ps.length = n) (hb : Binds K fd ps []) : SupI P w K mg base (He.ga K) k C n γ := by
  unfold supFB at h
  obtain ⟨h1, h⟩ := He.ba h
  obtain ⟨h2, h⟩ := He.ba h
  obtain ⟨h3, h⟩ := He.ba h
  obtain ⟨h4, h5⟩ := He.ba h
  exact ⟨of_decide_eq_true h1, He.eqO_ok h2, top, hm, _, fd, ps, F, hn, hb, He.eqO_ok h3, of_decide_eq_true h4, h5⟩
end Sm

/-! S39: rows of the tables. -/
namespace Sm
open PySem PySem.Spec PyProof.Rows L2
section
variable {P : Program} {w : World} {K : PySem.W.Frag} {mg : Str → Option Value} {base : Heap} {cl : Str → Addr} {k : Nat}
theorem calM_mk {C m : Str} {f : Addr} {fd : FuncData} {ps : List Str} {γ : List W → M W} (F : FnOk P w K mg base (CX P w) k f fd ps (spF ⟨K, cl⟩ ps.length γ)) (hf : Meth K (cl C) m f) (hb : Binds K fd ps []) : CalM P w K mg base cl k C m ps.length [] γ :=
  ⟨f, fd, ps, [], [], F, rfl, hb, .nil, fun _ _ => RWs.nil, hf.at_, hf.fn, hf.kp⟩
theorem calI_mk {C : Str} {f : Addr} {fd : FuncData} {ps : List Str} {γ : MO → List W → M MO} {dws : List W} {ds : List Value} {dvs : List V} (F : FnOk P w K mg base (CX P w) k f fd ps (spI ⟨K, cl⟩ ps.length γ)) (hm : mg C = some (.ref (cl C))) (M : Mk K (cl C) f) (hb : Binds K fd ps ds) (hd : Vals dvs ds) (hw : ∀ F ρ, RWs ⟨K, cl⟩ F ρ dws dvs) :
    CalI P w K mg base cl k C ps.length dws γ := ⟨f, fd, ps, ds, dvs, F, rfl, hm, M, hb, hd, hw⟩
end
end Sm

/-! S40: the worth that tells nothing; the script. -/
namespace Sm
open PySem PySem.Spec PyProof.Rows L2
section
variable {P : Program} {w : World} {K : PySem.W.Frag} {mg : Str → Option Value} {base : Heap} {cl : Str → Addr}
theorem fnOkI_bad {k : Nat} {f : Addr} {fd : FuncData} {ps : List Str} : FnOk P w K mg base (CX P w) k f fd ps (spI ⟨K, cl⟩ ps.length fun _ _ => bad) := ⟨fun _ _ _ _ h => h.1, fun A outer s H args us vs Q E hr e0 hb r h => by
  obtain ⟨_, a, vs', F, ρ, m, ws, o, h, _, _, _, _, _, _, _, p⟩ := h
  exact p.elim⟩
/-- a def with defaults: the last ones are not given -/
theorem FunD.bindsD {x qual : Str} {params : Arguments} {body : List Stmt} {scope : Scope} {dvs : List V} {kws : List (Str × V)} {f : Addr} {fd : FuncData} {ps : List Str} (F : FunD K x qual params body scope dvs kws f fd) (n j : Nat) (hd : dvs ≠ []) (hn : n + (dvs.length - j) = ps.length)
    (h : ∀ (T : Addr) (kV doc pm : Value) (an : Option Addr) (cdv ct : Value) (us its : List Value), us.length = n → its.length = dvs.length →
      ∃ k, bindArgs (PySem.W.fnOf x qual params body scope (.ref T) kV doc pm an cdv ct) ⟨us, []⟩ = seqItems? (.ref T) >>= k ∧ k (some its.toArray) = pure (ps.zip (us ++ its.drop j))) : ∃ ds, Vals (dvs.drop j) ds ∧ Binds K fd ps ds := F.binds1 n j hd hn h
theorem empty_tup {a : Addr} (h : (match K.lookup a with | some ⟨.type c, _, .seq its _, _⟩ => c == "tuple" && its.size == 0 | _ => false) = true) (F : Hp) (ρ : List Addr) : RW ⟨K, cl⟩ F ρ (.tup []) (.ref a) := by
  unfold RW
  refine ⟨a, [], rfl, ?_, RWs.nil⟩
  cases q : K.lookup a with
  | none =>
    rw [q] at h
    cases h
  | some o =>
    obtain ⟨oc, od, dt, osl⟩ := o
    rw [q] at h
    cases oc with
    | type c =>
      cases dt with
      | seq its n =>
        simp only [Bool.and_eq_true, beq_iff_eq] at h
        obtain ⟨h1, h2⟩ := h
        subst h1
        have e : its = #[] := Array.eq_empty_of_size_eq_zero h2
        subst e
        exact .inr ⟨_, #[], n, q, rfl, rfl, by decide, .nil⟩
      | _ => cases h
    | _ => cases dt <;> cases h
end
/-- the law's end: its worth at the script is True -/
theorem law_end {K : PySem.W.Frag} {cl : Str → Addr} {γ : List W → M W} {H : Hp} {a : Addr} {ns : List Int} (hO : Only H) (hS : SqL K H a (ns.map V.int)) (hR : Rd H a (.lst (ns.map V.int))) (e : ∃ m', γ [.lst (ns.map .int)] [] = .ok (.bl true) m') : spF ⟨K, cl⟩ 1 γ [.ref a] H (fun v _ => v = .bl true) fun _ _ _ => False := by
  refine ⟨rfl, H, [], [], [.lst (ns.map .int)], ⟨Same.refl _, rfl, List.nodup_nil, fun _ h => (List.not_mem_nil h).elim, fun i a o h => by cases h⟩, RWs.cons ?_ RWs.nil, ?_⟩
  · unfold RW
    refine ⟨a, _, rfl, hR, ?_⟩
    clear hS hR e
    induction ns with
    | nil => exact RWs.nil
    | cons n ns ih => exact RWs.cons rfl ih
  · obtain ⟨m', e⟩ := e
    rw [e]
    intro v F' ρ' H' _ _ q
    exact q
section
variable {P : Program} {K : PySem.W.Frag} {x qual : Str} {params : Arguments} {body : List Stmt} {scope : Scope} {f cc D cda : Addr} {fd : FuncData} {ps : List Str} {dvs : List V}
theorem FunS.bindsN (Fs : FunS P K x qual params body scope f fd cc D cda) (hD : DflV K fd.defaults [])
    (h : ∀ (kV doc pm : Value) (an : Option Addr) (ct : Value) (us : List Value), us.length = ps.length → bindArgs (PySem.W.ksFn x qual params body scope .none kV doc pm an (.ref cda) ct cc) ⟨us, []⟩ = pure (ps.zip us)) : Binds K fd ps [] := by
  obtain ⟨oc, od, dV, kV, doc, pm, an, ct, osl, rfl, lk⟩ := Fs.ex
  rcases hD with ⟨_, e⟩ | ⟨e, _⟩
  · have e2 : dV = .none := e
    subst e2
    exact .all (h kV doc pm an ct)
  · exact absurd rfl e
theorem FunS.bindsD (Fs : FunS P K x qual params body scope f fd cc D cda) (hD : DflV K fd.defaults dvs) (n j : Nat) (hd : dvs ≠ []) (hn : n + (dvs.length - j) = ps.length)
    (h : ∀ (T : Addr) (kV doc pm : Value) (an : Option Addr) (ct : Value) (us its : List Value), us.length = n → its.length = dvs.length → ∃ k, bindArgs (PySem.W.ksFn x qual params body scope (.ref T) kV doc pm an (.ref cda) ct cc) ⟨us, []⟩ = seqItems? (.ref T) >>= k ∧ k (some its.toArray) = pure (ps.zip (us ++ its.drop j))) :
    ∃ ds, Vals (dvs.drop j) ds ∧ Binds K fd ps ds := by
  obtain ⟨oc, od, dV, kV, doc, pm, an, ct, osl, rfl, lk⟩ := Fs.ex
  refine binds_d hD n j hd hn fun T us its e h1 h2 => ?_
  have e2 : dV = .ref T := e
  subst e2
  exact h T kV doc pm an ct us its h1 h2
end
/-- no list stands in the fragment -/
def noLst (K : PySem.W.Frag) : Bool := K.all fun p => match p.2.cls with
  | .type c => !(c == "list")
  | _ => true
theorem rd_of {K : PySem.W.Frag} {H : Hp} {a : Addr} {xs : List V} (h : noLst K = true) (q : SqL K H a xs) : Rd H a (.lst xs) := by
  rcases q with q | ⟨o, its, n, h1, h2, _⟩
  · exact q
  · have hm : (a, o) ∈ K := by
      have h1' : List.lookup a K = some o := h1
      clear h h1 h2
      induction K with
      | nil => cases h1'
      | cons p K ih =>
        obtain ⟨b, u⟩ := p
        rw [List.lookup_cons] at h1'
        split at h1'
        · rename_i e
          cases h1'
          rw [eq_of_beq e]
          exact List.mem_cons_self ..
        · exact List.mem_cons_of_mem _ (ih h1')
    have z := List.all_eq_true.mp h _ hm
    dsimp only at z
    rw [h2] at z
    cases z
/-- a law lets nothing out -/
theorem noX {P : Program} {w : World} {K : PySem.W.Frag} {mg : Str → Option Value} {base : Heap} {k : Nat} {f : Addr} {fd : FuncData} {ps : List Str} {sp : Sp} (F : FnOk P w K mg base (CX P w) k f fd ps sp) : FnOk P w K mg base CX0 k f fd ps fun vs H Q _ => sp vs H Q fun _ _ _ => False :=
  ⟨fun vs H Q E h => F.len vs H Q _ h, fun A outer s H args us vs Q E hr he hb hv hs => codeAny_mono (F.run A outer s H args us vs Q _ hr he hb hv hs) fun r s' h => by
    cases r with
    | error e =>
      obtain ⟨a, B, H', cls, d, _, _, _, _, _, _, _, z⟩ := h
      exact z.elim
    | ok fl =>
      cases fl with
      | next => exact h
      | brk => exact h
      | cont => exact h
      | ret u => exact h⟩
end Sm

/-! S41: len(o), o[i] of own instances. -/
namespace Sm
open PySem PySem.Spec PyProof.Rows L2
def lenM (T : List Str) (Γ : Str → List W → M W) (x : W) : M W := fun m => match clsW x with
  | some C => if T.contains C then (match Γ C [x] m with
      | .ok (.int n) m' => if 0 ≤ n ∧ n.toNat < 4611686018427387904 then .ok (.int n) m' else .bad
      | .ok _ _ => .bad
      | .exc e m' => .exc e m'
      | .bad => .bad) else .bad
  | none => .bad
def itemM (T : List Str) (Γ : Str → List W → M W) (x y : W) : M W := fun m => match clsW x with
  | some C => if T.contains C then Γ C [x, y] m else .bad
  | none => .bad
/-- __getitem__ of the classes T is a def of the text -/
def GetT (K : PySem.W.Frag) (cl : Str → Addr) (T : List Str) : Prop := ∀ C ∈ T, ∀ f, PySem.W.findIn K (.ref (cl C)) "__getitem__" = some (some (.ref f)) → PySem.W.fnIn K f = true
def getB (K : PySem.W.Frag) (T : List Str) : Bool := T.all fun C => match PySem.W.findIn K (.ref (He.ga K C)) "__getitem__" with
  | some (some (.ref f)) => PySem.W.fnIn K f
  | _ => true
theorem getT_of {K : PySem.W.Frag} {T : List Str} (h : getB K T = true) : GetT K (He.ga K) T := fun C hC f e => by
  have z := List.all_eq_true.mp h C hC
  rw [e] at z
  exact z
section
variable {cl : Str → Addr} {X : Cx} {Wx : WX} {a b e : Expr} {fa fb fe : Fe} {p pos : Pos} {k : Nat} {T : List Str} {Γ : Str → List W → M W}
theorem s_ixO (hT : GetT X.K cl T) (hΓ : ∀ C ∈ T, CalM X.prog X.w X.K X.mg X.base cl k C "__getitem__" 2 [] (Γ C)) (hr : Room (k + 1) X.A) (tk : Takes X Wx) (ha : SE ⟨X.K, cl⟩ X Wx a fa) (hb : SE ⟨X.K, cl⟩ X Wx b fb)
    (hsl : ∀ v u, subscripted b true v u = runValue (.builtin "lifetime.subscript" ⟨[v, u], []⟩) := by intro _ _; rfl) : SE ⟨X.K, cl⟩ X Wx (.Subscript a b pos) (e2M (itemM T Γ) fa fb) := by
  refine ⟨fun pins s σ H Q I h => Subscript_ (binT ha hb I (w_2M h) fun v u s2 x y H2 I2 rx ry q => ?_)⟩
  obtain ⟨F, ρ, m, wx, wy, r, q1, q2, p⟩ := q
  unfold itemM at p
  split at p
  · rename_i C e1
    split at p
    · rename_i c1
      have c1' := List.contains_iff_mem.mp c1
      obtain ⟨ax, ox, od, rfl, J1⟩ := inst_of I2 r q1 e1
      cases rx
      obtain ⟨f, fd, ps, ds, dvs, Fn, hn, hbd, hd, hw, hs, hf, _⟩ := (hΓ C c1').ex
      obtain ⟨fm, fr⟩ := I2.fr
      exact PySem.W.sub_K fr I2.mod.kin J1 hs (hT C c1' f hs) hf (run_MA (A := X.A.in1) (us := [.ref ax, u]) (vs := [.ref ax, y]) Fn hr.in1 rfl hbd hd hw tk I2 (.cons rfl (.cons ry .nil)) r (.cons q1 (.cons q2 .nil)) (by rw [hn]; rfl) p) (hsl _ _)
    · exact p.elim
  · exact p.elim
theorem s_lenO (hΓ : ∀ C ∈ T, CalM X.prog X.w X.K X.mg X.base cl k C "__len__" 1 [] (Γ C)) (hr : Room (k + 1) X.A) (tk : Takes X Wx) (he : SE ⟨X.K, cl⟩ X Wx e fe) (hm : X.mg "len" = none) (hg : Gl X "len" := by rfl)
    (hst : starEach [e] X.env = (false, eval e X.env) :: starEach [] X.env := by rfl) (hpl : (backTo pos (starEach [] X.env)).any (·.1) = false := by rfl) : SE ⟨X.K, cl⟩ X Wx (.Call (.Name "len" p) [e] [] pos) (e1M (lenM T Γ) fe) := by
  refine ⟨fun pins s σ H Q I h => ?_⟩
  have ha : PA X [e] (tCons (sE ⟨X.K, cl⟩ Wx fe) tNil) := pa_cons he pa_nil hst
  refine wpAny_Call_Name_kw (ld_blt I hg hm boot_len ?_ (by decide) (by decide))
  refine PyProof.Rows.callWith_builtin1 (thn (ha.run pos pins s σ H (fun vs H1 => ∃ x, vs = [x] ∧ ∃ F ρ m wx, R ⟨X.K, cl⟩ F ρ m H1 ∧ RW ⟨X.K, cl⟩ F ρ wx x ∧ Post (OkE ⟨X.K, cl⟩ F ρ H1 Q) (OkX ⟨X.K, cl⟩ F ρ H1 fun k d H' => Wx k d σ H') (lenM T Γ wx m)) I ?_) fun us s1 ⟨vs, H1, I1, r1, x, ex, F, ρ, m, wx, r, q, pp⟩ => ?_) hst hpl
  · obtain ⟨F, ρ, m, τ, r, hs, p⟩ := w_1M h
    refine ⟨F, ρ, m, τ, r, hs, ?_⟩
    cases e1 : fe τ m with
    | bad =>
      rw [e1] at p
      exact p
    | exc z m' =>
      rw [e1] at p
      exact p
    | ok w m1 =>
      rw [e1] at p
      exact fun v F' ρ' H' r' g' q' => ⟨v, rfl, p v F' ρ' H' r' g' q'⟩
  subst ex
  unfold lenM at pp
  cases ec : clsW wx with
  | none =>
    rw [ec] at pp
    exact pp.elim
  | some C =>
    rw [ec] at pp
    dsimp only at pp
    by_cases hc : T.contains C = true
    · rw [if_pos hc] at pp
      obtain ⟨a, ox, od, rfl, J⟩ := inst_of I1 r q ec
      obtain ⟨u, rfl, ru⟩ := vals1 r1
      cases ru
      obtain ⟨f, fd, ps, ds, dvs, Fn, hps, hbd, hd, hw, hf1, hf2, hf3⟩ := (hΓ C (List.contains_iff_mem.mp hc)).ex
      have p' : Post (OkE ⟨X.K, cl⟩ F ρ H1 (fun v H' => ∃ n : Int, v = .int n ∧ (0 ≤ n ∧ n < 2 ^ 63) ∧ Q (.int n) H')) (OkX ⟨X.K, cl⟩ F ρ H1 fun k d H' => Wx k d σ H') (Γ C ([wx] ++ []) m) := by
        show Post _ _ (Γ C [wx] m)
        cases e3 : Γ C [wx] m with
        | bad =>
          rw [e3] at pp
          exact pp
        | exc z m' =>
          rw [e3] at pp
          exact pp
        | ok w m' =>
          rw [e3] at pp
          cases w with
          | int n =>
            dsimp only at pp
            by_cases hn : 0 ≤ n ∧ n.toNat < 4611686018427387904
            · rw [if_pos hn] at pp
              intro v F' ρ' H' r' g' q'
              exact ⟨n, q', ⟨hn.1, by omega⟩, pp _ F' ρ' H' r' g' rfl⟩
            · rw [if_neg hn] at pp
              exact pp.elim
          | _ => exact pp.elim
      obtain ⟨fm, fr⟩ := I1.fr
      refine PySem.W.len_K fr I1.mod.kin J hf1 hf2 (thn (run_MA (A := X.A.in1) (us := [.ref a]) (vs := [.ref a]) Fn hr.in1 rfl hbd hd hw tk I1 (.cons rfl .nil) r (.cons q .nil) (by rw [hps]; rfl) p') fun u s' z => ?_)
      obtain ⟨v, H', I', rv, n, rfl, hn, qq⟩ := z
      obtain ⟨t, rfl⟩ := rv
      exact ⟨hn, .int n, H', I'.tok _, ⟨_, rfl⟩, qq⟩
    · rw [if_neg hc] at pp
      exact pp.elim
end
end Sm

/-! S42: enumerate(list). -/
namespace Sm
open PySem PySem.Spec PyProof.Rows L2
def enL (xs : List W) : List W := xs.mapIdx fun i x => .tup [.int (i : Nat), x]
def iEn (g : Fas) : Fas := fun τ => bnd (g τ) fun ws m => match ws with
  | [.lst xs] => .ok (enL xs) m
  | _ => .bad
section
variable {cl : Str → Addr} {X : Cx} {Wx : WX}
theorem wk_enum {F : Hp} {ρ : List Addr} {a : Addr} {ws : List W} {vs : List V} (h : Rd F a (.lst vs)) (t : RWs ⟨X.K, cl⟩ F ρ ws vs) : Wk ⟨X.K, cl⟩ (Ite X.K a) (enL ws) F ρ := by
  have hl := t.length
  have he : (enL ws).length = ws.length := by simp [enL]
  refine ⟨fun i F2 ρ2 m2 H2 s p r hi => ⟨vs, vs[i]'(by omega), .inl (rd_mono (s.trans r.sub) h), by simp⟩, fun F2 ρ2 m2 H2 s p r => ⟨vs, .inl (rd_mono (s.trans r.sub) h), by omega⟩, fun i F2 ρ2 m2 H2 x H3 s p r hi y => ?_⟩
  obtain ⟨T, x, rfl, hn, rfl, y⟩ := y
  obtain ⟨v, e1, e2⟩ := t.get (i := i) (w := ws[i]'(by omega)) (by simp)
  have e3 := y vs (.inl (rd_mono (s.trans r.sub) h))
  rw [e1] at e3
  obtain rfl : v = x := Option.some.inj e3
  obtain ⟨r1, g1⟩ := r.new hn (.tup [.int (i : Nat), v])
  refine ⟨_, .tup [.int (i : Nat), ws[i]'(by omega)], r1, g1, ?_, ?_⟩
  · simp [enL, List.getElem?_mapIdx]
  · unfold RW
    exact ⟨T, _, rfl, .inl (.inl upd_same), .cons rfl (.cons ((e2.mono s p).mono g1.ff g1.pre) .nil)⟩
theorem i_enum {e : Expr} {g : Fas} {p pos tpos : Pos} {elts : List Expr} {kk : Nat} (ha : SA ⟨X.K, cl⟩ X Wx [e] g) (hm : X.mg "enumerate" = none) (hg : Gl X "enumerate" := by rfl) (hs : starEach [e] X.env = [(false, eval e X.env)] := by rfl) : SI ⟨X.K, cl⟩ X Wx (.Tuple elts kk tpos) (.Call (.Name "enumerate" p) [e] [] pos) (iEn g) := by
  refine ⟨fun pins s σ H Rr I h => (pi_enum hg hm ha hs).run pins s σ H Rr I ?_⟩
  obtain ⟨F, ρ, m, τ, r, hs, p⟩ := h
  refine ⟨F, ρ, m, τ, r, hs, ?_⟩
  unfold iEn bnd at p
  cases e : g τ m with
  | bad =>
    rw [e] at p
    exact p
  | exc x m' =>
    rw [e] at p
    exact p
  | ok ws m1 =>
    rw [e] at p
    dsimp only at p
    intro vs F1 ρ1 H1 r1 g1 q1
    match ws, p, q1 with
    | [.lst xs], p, q1 =>
      obtain ⟨v, rr, rfl, h1, h2⟩ := q1.inv
      have e2 : rr = [] := h2
      subst e2
      unfold RW at h1
      obtain ⟨a, vs, rfl, h3, h4⟩ := h1
      exact ⟨a, vs, rfl, .inl (rd_mono r1.sub h3), p _ F1 ρ1 H1 r1 g1 (wk_enum h3 h4)⟩
    | [], p, _ => exact p.elim
    | .non :: _, p, _ => exact p.elim
    | .bl _ :: _, p, _ => exact p.elim
    | .int _ :: _, p, _ => exact p.elim
    | .str _ :: _, p, _ => exact p.elim
    | .tup _ :: _, p, _ => exact p.elim
    | .dct _ _ :: _, p, _ => exact p.elim
    | .obj _ _ _ :: _, p, _ => exact p.elim
    | .tree _ _ _ _ :: _, p, _ => exact p.elim
    | .ref _ :: _, p, _ => exact p.elim
    | .ty _ :: _, p, _ => exact p.elim
    | .cls _ :: _, p, _ => exact p.elim
    | .lst _ :: _ :: _, p, _ => exact p.elim
end
end Sm

/-! S43: x += e, x -= e of ints. -/
namespace Sm
open PySem PySem.Spec PyProof.Rows L2
def addIM : W → W → M W
  | .int i, .int j => ret (.int (i + j))
  | _, _ => bad
def subIM : W → W → M W
  | .int i, .int j => ret (.int (i - j))
  | _, _ => bad
section
variable {cl : Str → Addr} {X : Cx}
theorem ip_of {op : Operator} {f : Int → Int → Int} {g : W → W → M W} (h : PIp X op (ipI f)) (hg : ∀ x y m, g x y m = .bad ∨ ∃ i j, x = .int i ∧ y = .int j ∧ g x y m = .ok (.int (f i j)) m) : PIp X op (tIpM ⟨X.K, cl⟩ g) := by
  intro pins s σ H x y v u Q I rx ry hr
  obtain ⟨F, ρ, m, wx, wy, r, q1, q2, p⟩ := hr
  rcases hg wx wy m with e | ⟨i, j, rfl, rfl, e⟩
  · rw [e] at p
    exact p.elim
  · rw [e] at p
    have e1 : x = .int i := q1
    have e2 : y = .int j := q2
    exact h pins s σ H x y v u Q I rx ry ⟨i, j, e1, e2, p _ F ρ H r .refl rfl⟩
theorem ip_addI : PIp X .Add (tIpM ⟨X.K, cl⟩ addIM) := ip_of ip_add fun x y m => by
  unfold addIM
  split
  · exact .inr ⟨_, _, rfl, rfl, rfl⟩
  · exact .inl rfl
theorem ip_subI : PIp X .Sub (tIpM ⟨X.K, cl⟩ subIM) := ip_of ip_sub fun x y m => by
  unfold subIM
  split
  · exact .inr ⟨_, _, rfl, rfl, rfl⟩
  · exact .inl rfl
end
end Sm

/-! S44: a Hook that looks at written addresses. -/
namespace Sm
open PySem PySem.Spec PyProof.Rows L2
def obsAG (l : List Addr) (B : PySem.W.Frag → Bool) (ds : List DefU) (g : Addr → Option Obj) : AlU := obsU B ds (He.frG g l)
def hookA (l : List Addr) (B : PySem.W.Frag → Bool) (ds : List DefU) : PySem.W.Hook where
  α := AlU
  obs := fun s => obsAG l B ds s.heap.get?
  val := fun _ => valU ds
  says := fun _ h => ∃ K : PySem.W.Frag, K.In h ∧ SaysU B ds K
  of := fun _ _ e => ⟨_, He.frG_in, e⟩
  keeps := fun _ _ _ ⟨K, hK, c⟩ k => ⟨K, PySem.W.Frag.In.keeps hK k, c⟩
theorem obsAG_eq {l : List Addr} {B : PySem.W.Frag → Bool} {ds : List DefU} {g : Addr → Option Obj} {s : Shared} (h : ∀ a, g a = s.heap.get? a) : obsAG l B ds g = (hookA l B ds).obs s := by
  have e : g = s.heap.get? := funext h
  rw [e] <;> rfl
end Sm

namespace Sm
open PySem PySem.Spec PyProof.Rows L2
def top (i : Nat) : Stmt := PySem.Challenge.pw_deedtrees_k09_whole_nodes_exchanged.main.body.getD i (.Pass ⟨0, 0, 0, 0⟩)
def BL : List Str := ["len", "abs", "int", "tuple", "max", "min", "range", "str", "list", "sorted", "all", "any", "isinstance", "set", "dict", "zip", "enumerate", "repr", "bool", "TypeError", "ValueError", "IndexError", "LookupError", "NotImplemented", "super"]

def Tt : List Str := ["Do", "Ask", "Row", "First", "Beside", "Again", "While", "If", "Not", "Always"]
def Tx : Tb where
  fn := ([("is_integer", 1, [], 0), ("is_name", 1, [], 1), ("is_sequence", 1, [], 2), ("need_name", 2, [], 3), ("need_part", 1, [], 4), ("checked_parts", 1, [], 5), ("lines_of", 3, [], 6), ("lines_of", 3, [.tup []], 6), ("_law_deal", 2, [], 7), ("_law_draw", 2, [], 8), ("_law_pick", 2, [], 9), ("_law_name", 1, [], 10), ("_law_kids", 4, [], 11), ("_law_grown", 3, [], 12), ("_law_blocks", 1, [], 13), ("_law_head", 1, [], 14), ("_law_script", 1, [], 15), ("_law_nodes", 1, [], 16), ("_law_make", 1, [], 17), ("_law_ends", 1, [], 18), ("law", 1, [], 19)] : List (Str × Nat × List W × Nat))
  ini := ([("Do", 2, [], 0), ("Ask", 2, [], 1), ("Row", 3, [], 2), ("Row", 3, [.bl false], 2), ("First", 3, [], 3), ("First", 3, [.bl false], 3), ("Beside", 3, [], 4), ("Again", 3, [], 5), ("While", 3, [], 6), ("If", 3, [], 7), ("Not", 2, [], 8), ("Always", 3, [], 9)] : List (Str × Nat × List W × Nat))
  met := ([("Do", "__add__", 2, [], 0), ("Ask", "__add__", 2, [], 0), ("Row", "__add__", 2, [], 0), ("First", "__add__", 2, [], 0), ("Beside", "__add__", 2, [], 0), ("Again", "__add__", 2, [], 0), ("While", "__add__", 2, [], 0), ("If", "__add__", 2, [], 0), ("Not", "__add__", 2, [], 0), ("Always", "__add__", 2, [], 0), ("Do", "__or__", 2, [], 1), ("Ask", "__or__", 2, [], 1), ("Row", "__or__", 2, [], 1), ("First", "__or__", 2, [], 1), ("Beside", "__or__", 2, [], 1), ("Again", "__or__", 2, [], 1), ("While", "__or__", 2, [], 1), ("If", "__or__", 2, [], 1), ("Not", "__or__", 2, [], 1), ("Always", "__or__", 2, [], 1), ("Do", "__and__", 2, [], 2), ("Ask", "__and__", 2, [], 2), ("Row", "__and__", 2, [], 2), ("First", "__and__", 2, [], 2), ("Beside", "__and__", 2, [], 2), ("Again", "__and__", 2, [], 2), ("While", "__and__", 2, [], 2), ("If", "__and__", 2, [], 2), ("Not", "__and__", 2, [], 2), ("Always", "__and__", 2, [], 2)] : List (Str × Str × Nat × List W × Nat)) ++ ([("Do", "__mul__", 2, [], 3), ("Ask", "__mul__", 2, [], 3), ("Row", "__mul__", 2, [], 3), ("First", "__mul__", 2, [], 3), ("Beside", "__mul__", 2, [], 3), ("Again", "__mul__", 2, [], 3), ("While", "__mul__", 2, [], 3), ("If", "__mul__", 2, [], 3), ("Not", "__mul__", 2, [], 3), ("Always", "__mul__", 2, [], 3), ("Do", "__invert__", 1, [], 4), ("Ask", "__invert__", 1, [], 4), ("Row", "__invert__", 1, [], 4), ("First", "__invert__", 1, [], 4), ("Beside", "__invert__", 1, [], 4), ("Again", "__invert__", 1, [], 4), ("While", "__invert__", 1, [], 4), ("If", "__invert__", 1, [], 4), ("Not", "__invert__", 1, [], 4), ("Always", "__invert__", 1, [], 4), ("Do", "__eq__", 2, [], 5), ("Ask", "__eq__", 2, [], 5), ("Row", "__eq__", 2, [], 5), ("First", "__eq__", 2, [], 5), ("Beside", "__eq__", 2, [], 5), ("Again", "__eq__", 2, [], 5), ("While", "__eq__", 2, [], 5), ("If", "__eq__", 2, [], 5), ("Not", "__eq__", 2, [], 5), ("Always", "__eq__", 2, [], 5)] : List (Str × Str × Nat × List W × Nat)) ++ ([("Do", "__str__", 1, [], 6), ("Ask", "__str__", 1, [], 6), ("Row", "__str__", 1, [], 6), ("First", "__str__", 1, [], 6), ("Beside", "__str__", 1, [], 6), ("Again", "__str__", 1, [], 6), ("While", "__str__", 1, [], 6), ("If", "__str__", 1, [], 6), ("Not", "__str__", 1, [], 6), ("Always", "__str__", 1, [], 6), ("Do", "__len__", 1, [], 7), ("Ask", "__len__", 1, [], 7), ("Row", "__len__", 1, [], 7), ("First", "__len__", 1, [], 7), ("Beside", "__len__", 1, [], 7), ("Again", "__len__", 1, [], 7), ("While", "__len__", 1, [], 7), ("If", "__len__", 1, [], 7), ("Not", "__len__", 1, [], 7), ("Always", "__len__", 1, [], 7), ("Do", "__getitem__", 2, [], 8), ("Ask", "__getitem__", 2, [], 8), ("Row", "__getitem__", 2, [], 8), ("First", "__getitem__", 2, [], 8), ("Beside", "__getitem__", 2, [], 8), ("Again", "__getitem__", 2, [], 8), ("While", "__getitem__", 2, [], 8), ("If", "__getitem__", 2, [], 8), ("Not", "__getitem__", 2, [], 8), ("Always", "__getitem__", 2, [], 8)] : List (Str × Str × Nat × List W × Nat)) ++ ([("Do", "put", 3, [], 9), ("Ask", "put", 3, [], 9), ("Row", "put", 3, [], 9), ("First", "put", 3, [], 9), ("Beside", "put", 3, [], 9), ("Again", "put", 3, [], 9), ("While", "put", 3, [], 9), ("If", "put", 3, [], 9), ("Not", "put", 3, [], 9), ("Always", "put", 3, [], 9), ("Do", "anew", 2, [], 10), ("Ask", "anew", 2, [], 10), ("Row", "anew", 2, [], 10), ("First", "anew", 2, [], 10), ("Beside", "anew", 2, [], 10), ("Again", "anew", 2, [], 10), ("While", "anew", 2, [], 10), ("If", "anew", 2, [], 10), ("Not", "anew", 2, [], 10), ("Always", "anew", 2, [], 10)] : List (Str × Str × Nat × List W × Nat))
  ats := [("Do", ["form", "blocks", "script", "nodes", "action", "question", "parts", "kept", "needed", "part", "rounds", "word"]), ("Ask", ["form", "blocks", "script", "nodes", "action", "question", "parts", "kept", "needed", "part", "rounds", "word"]), ("Row", ["form", "blocks", "script", "nodes", "action", "question", "parts", "kept", "needed", "part", "rounds", "word"]), ("First", ["form", "blocks", "script", "nodes", "action", "question", "parts", "kept", "needed", "part", "rounds", "word"]), ("Beside", ["form", "blocks", "script", "nodes", "action", "question", "parts", "kept", "needed", "part", "rounds", "word"]), ("Again", ["form", "blocks", "script", "nodes", "action", "question", "parts", "kept", "needed", "part", "rounds", "word"]), ("While", ["form", "blocks", "script", "nodes", "action", "question", "parts", "kept", "needed", "part", "rounds", "word"]), ("If", ["form", "blocks", "script", "nodes", "action", "question", "parts", "kept", "needed", "part", "rounds", "word"]), ("Not", ["form", "blocks", "script", "nodes", "action", "question", "parts", "kept", "needed", "part", "rounds", "word"]), ("Always", ["form", "blocks", "script", "nodes", "action", "question", "parts", "kept", "needed", "part", "rounds", "word"])]
  tc := ["Do", "Ask", "Row", "First", "Beside", "Again", "While", "If", "Not", "Always", "Tree"]
  kt := ([((.b "NoneType", .b "str"), false), ((.b "NoneType", .b "int"), false), ((.b "NoneType", .b "bool"), false), ((.b "NoneType", .b "list"), false), ((.b "NoneType", .b "tuple"), false), ((.b "bool", .b "str"), false), ((.b "bool", .b "int"), true), ((.b "bool", .b "bool"), true), ((.b "bool", .b "list"), false), ((.b "bool", .b "tuple"), false), ((.b "int", .b "str"), false), ((.b "int", .b "int"), true), ((.b "int", .b "bool"), false), ((.b "int", .b "list"), false), ((.b "int", .b "tuple"), false), ((.b "str", .b "str"), true), ((.b "str", .b "int"), false), ((.b "str", .b "bool"), false), ((.b "str", .b "list"), false), ((.b "str", .b "tuple"), false), ((.b "tuple", .b "str"), false), ((.b "tuple", .b "int"), false), ((.b "tuple", .b "bool"), false), ((.b "tuple", .b "list"), false), ((.b "tuple", .b "tuple"), true), ((.b "list", .b "str"), false), ((.b "list", .b "int"), false), ((.b "list", .b "bool"), false), ((.b "list", .b "list"), true), ((.b "list", .b "tuple"), false)] : List ((Ty × Ty) × Bool)) ++ ([((.c "Do", .b "str"), false), ((.c "Do", .b "int"), false), ((.c "Do", .b "bool"), false), ((.c "Do", .b "list"), false), ((.c "Do", .b "tuple"), false), ((.c "Ask", .b "str"), false), ((.c "Ask", .b "int"), false), ((.c "Ask", .b "bool"), false), ((.c "Ask", .b "list"), false), ((.c "Ask", .b "tuple"), false), ((.c "Row", .b "str"), false), ((.c "Row", .b "int"), false), ((.c "Row", .b "bool"), false), ((.c "Row", .b "list"), false), ((.c "Row", .b "tuple"), false), ((.c "First", .b "str"), false), ((.c "First", .b "int"), false), ((.c "First", .b "bool"), false), ((.c "First", .b "list"), false), ((.c "First", .b "tuple"), false), ((.c "Beside", .b "str"), false), ((.c "Beside", .b "int"), false), ((.c "Beside", .b "bool"), false), ((.c "Beside", .b "list"), false), ((.c "Beside", .b "tuple"), false), ((.c "Again", .b "str"), false), ((.c "Again", .b "int"), false), ((.c "Again", .b "bool"), false), ((.c "Again", .b "list"), false), ((.c "Again", .b "tuple"), false)] : List ((Ty × Ty) × Bool)) ++ ([((.c "While", .b "str"), false), ((.c "While", .b "int"), false), ((.c "While", .b "bool"), false), ((.c "While", .b "list"), false), ((.c "While", .b "tuple"), false), ((.c "If", .b "str"), false), ((.c "If", .b "int"), false), ((.c "If", .b "bool"), false), ((.c "If", .b "list"), false), ((.c "If", .b "tuple"), false), ((.c "Not", .b "str"), false), ((.c "Not", .b "int"), false), ((.c "Not", .b "bool"), false), ((.c "Not", .b "list"), false), ((.c "Not", .b "tuple"), false), ((.c "Always", .b "str"), false), ((.c "Always", .b "int"), false), ((.c "Always", .b "bool"), false), ((.c "Always", .b "list"), false), ((.c "Always", .b "tuple"), false), ((.c "Do", .c "Tree"), true), ((.c "Ask", .c "Tree"), true), ((.c "Row", .c "Tree"), true), ((.c "First", .c "Tree"), true), ((.c "Beside", .c "Tree"), true), ((.c "Again", .c "Tree"), true), ((.c "While", .c "Tree"), true), ((.c "If", .c "Tree"), true), ((.c "Not", .c "Tree"), true), ((.c "Always", .c "Tree"), true)] : List ((Ty × Ty) × Bool)) ++ ([((.b "NoneType", .c "Tree"), false), ((.b "bool", .c "Tree"), false), ((.b "int", .c "Tree"), false), ((.b "str", .c "Tree"), false), ((.b "tuple", .c "Tree"), false), ((.b "list", .c "Tree"), false)] : List ((Ty × Ty) × Bool))
  bl := BL
  gs := [("LETTERS", "abcdefghijklmnopqrstuvwxyz")]

abbrev st_is_integer : Stmt := (top 27)
abbrev N_is_integer : List Str := ["value"]
theorem sc_is_integer : FnScope N_is_integer ["value"] (defScope st_is_integer) := ⟨rfl, rfl, rfl, by decide +kernel, rfl, by decide +kernel, by decide +kernel⟩
noncomputable def b_is_integer (Γ : Gam) : Fs := (sRet (eAnd (eBlt (isiW Tx.tc Tx.kt) (aCons (rVar 0) (aCons (eC (.ty "int")) aNil))) (eNotV (eBlt (isiW Tx.tc Tx.kt) (aCons (rVar 0) (aCons (eC (.ty "bool")) aNil))))))
theorem d_is_integer {P : Program} {w : World} {K : PySem.W.Frag} {mg : Str → Option Value} {base : Heap} {cl : Str → Addr} {k : Nat} {Γ : Gam} {qual : Str} {f : Addr} {cdv : Value} {A : Around} {outer : List Env} {s : Shared} {H : Hp} {E : XK} {B : Bs} (hF : Fx K mg cl Tx) (hX : Ox K cl Tt) (hI : GetT K cl Tt) (hH : Hy P w K mg base cl (4 * k) Tx Γ)
    (h : Ctx (cxOf (CX P w) P w K mg base N_is_integer qual (defScope st_is_integer) f cdv A outer s H E) (fun cls d _ H => E cls d H) (4 * k + 3)) : SXs ⟨K, cl⟩ (cxOf (CX P w) P w K mg base N_is_integer qual (defScope st_is_integer) f cdv A outer s H E) (fun cls d _ H => E cls d H) B (defBody st_is_integer) (b_is_integer Γ) :=
  (x_one (x_ret (s_and (s_isi hF 12 (s_rvar 0) (SE.rd (s_ty (hF.nog.at 2) (by kernel_rfl)))) (s_bone (s_not (SE.rd (s_isi hF 12 (s_rvar 0) (SE.rd (s_ty (hF.nog.at 18) (by kernel_rfl))))))))))

abbrev st_is_name : Stmt := (top 28)
abbrev N_is_name : List Str := ["value", "letter"]
theorem sc_is_name : FnScope N_is_name ["value"] (defScope st_is_name) := ⟨rfl, rfl, rfl, by decide +kernel, rfl, by decide +kernel, by decide +kernel⟩
noncomputable def b_is_name (Γ : Gam) : Fs := (sSeq (sIf (tOrr (tNt (tTru (eBlt (isiW Tx.tc Tx.kt) (aCons (rVar 0) (aCons (eC (.ty "str")) aNil))))) (tNt (tBl (eChain (cmpI fun i j => decide (i ≤ j)) (cmpI fun i j => decide (i ≤ j)) (eC (.int 1)) (eBlt lenW (aCons (rVar 0) aNil)) (eC (.int 4)))))) (sRet (eC (.bl false))) sNil)
    (sRet (eBlt allW (aCons (eL (nLc (iSeq (eVar 0)) [1] (bName 1) tYesM (op2 inW (rVar 1) (eC (.str "abcdefghijklmnopqrstuvwxyz"))))) aNil))))
theorem d_is_name {P : Program} {w : World} {K : PySem.W.Frag} {mg : Str → Option Value} {base : Heap} {cl : Str → Addr} {k : Nat} {Γ : Gam} {qual : Str} {f : Addr} {cdv : Value} {A : Around} {outer : List Env} {s : Shared} {H : Hp} {E : XK} {B : Bs} (hF : Fx K mg cl Tx) (hX : Ox K cl Tt) (hI : GetT K cl Tt) (hH : Hy P w K mg base cl (4 * k) Tx Γ)
    (h : Ctx (cxOf (CX P w) P w K mg base N_is_name qual (defScope st_is_name) f cdv A outer s H E) (fun cls d _ H => E cls d H) (4 * k + 3)) : SXs ⟨K, cl⟩ (cxOf (CX P w) P w K mg base N_is_name qual (defScope st_is_name) f cdv A outer s H E) (fun cls d _ H => E cls d H) B (defBody st_is_name) (b_is_name Γ) :=
  (x_cons (x_if (PW.pt (t_or (t_not (t_truth (SE.rd (s_isi hF 12 (s_rvar 0) (SE.rd (s_ty (hF.nog.at 7) (by kernel_rfl))))))) (t_or1 (t_not (t_chain o_le o_le (SE.rd s_int) (SE.rd (s_len (s_rvar 0) (hF.nog.at 0))) (SE.rd s_int)))))) (x_one (x_ret s_bl)) x_nil)
    (x_one (x_ret (s_all hF 10 h.calm (SE.rd (SN.se (n_lc h (own := [("letter", 1)]) (i_seq (s_var 0)) (blkOk_by (N := N_is_name) (sc := defScope st_is_name) (by decide +kernel)) (by decide) (fun _ _ _ _ _ => (g_name h.nd rfl (by first | exact Or.inl rfl | exact Or.inr rfl))) (fun _ _ _ _ _ => ts_nil) (fun _ _ _ _ _ => (s_cmp o_in (s_rvar 1) (SE.rd (s_gs hF 0)))))))))))

abbrev st_is_sequence : Stmt := (top 29)
abbrev N_is_sequence : List Str := ["value"]
theorem sc_is_sequence : FnScope N_is_sequence ["value"] (defScope st_is_sequence) := ⟨rfl, rfl, rfl, by decide +kernel, rfl, by decide +kernel, by decide +kernel⟩
noncomputable def b_is_sequence (Γ : Gam) : Fs := (sRet (eBlt (isiW Tx.tc Tx.kt) (aCons (rVar 0) (aCons (eTup (aCons (eC (.ty "list")) (aCons (eC (.ty "tuple")) aNil))) aNil))))
theorem d_is_sequence {P : Program} {w : World} {K : PySem.W.Frag} {mg : Str → Option Value} {base : Heap} {cl : Str → Addr} {k : Nat} {Γ : Gam} {qual : Str} {f : Addr} {cdv : Value} {A : Around} {outer : List Env} {s : Shared} {H : Hp} {E : XK} {B : Bs} (hF : Fx K mg cl Tx) (hX : Ox K cl Tt) (hI : GetT K cl Tt) (hH : Hy P w K mg base cl (4 * k) Tx Γ)
    (h : Ctx (cxOf (CX P w) P w K mg base N_is_sequence qual (defScope st_is_sequence) f cdv A outer s H E) (fun cls d _ H => E cls d H) (4 * k + 3)) : SXs ⟨K, cl⟩ (cxOf (CX P w) P w K mg base N_is_sequence qual (defScope st_is_sequence) f cdv A outer s H E) (fun cls d _ H => E cls d H) B (defBody st_is_sequence) (b_is_sequence Γ) :=
  (x_one (x_ret (s_isi hF 12 (s_rvar 0) (SE.rd (s_tup (a_cons (s_ty (hF.nog.at 8) (by kernel_rfl)) (a_cons (s_ty (hF.nog.at 3) (by kernel_rfl)) a_nil)))))))

abbrev st_need_name : Stmt := (top 31)
abbrev N_need_name : List Str := ["value", "word"]
theorem sc_need_name : FnScope N_need_name ["value", "word"] (defScope st_need_name) := ⟨rfl, rfl, rfl, by decide +kernel, rfl, by decide +kernel, by decide +kernel⟩
noncomputable def b_need_name (Γ : Gam) : Fs := (sIf (tNt (tTru (eCall 1 (Γ.f 1) [] (aCons (eVar 0) aNil)))) (fun _ _ => .bad) sNil)
theorem d_need_name {P : Program} {w : World} {K : PySem.W.Frag} {mg : Str → Option Value} {base : Heap} {cl : Str → Addr} {k : Nat} {Γ : Gam} {qual : Str} {f : Addr} {cdv : Value} {A : Around} {outer : List Env} {s : Shared} {H : Hp} {E : XK} {B : Bs} (hF : Fx K mg cl Tx) (hX : Ox K cl Tt) (hI : GetT K cl Tt) (hH : Hy P w K mg base cl (4 * k) Tx Γ)
    (h : Ctx (cxOf (CX P w) P w K mg base N_need_name qual (defScope st_need_name) f cdv A outer s H E) (fun cls d _ H => E cls d H) (4 * k + 3)) : SXs ⟨K, cl⟩ (cxOf (CX P w) P w K mg base N_need_name qual (defScope st_need_name) f cdv A outer s H E) (fun cls d _ H => E cls d H) B (defBody st_need_name) (b_need_name Γ) :=
  (x_one (x_if (t_not (t_truth (SE.rd (s_call (hH.fnAt 1) (h.hr.mono (by omega)) h.tk (a_cons (s_var 0) a_nil))))) (x_one x_bad) x_nil))

abbrev st_need_part : Stmt := (top 32)
abbrev N_need_part : List Str := ["value"]
theorem sc_need_part : FnScope N_need_part ["value"] (defScope st_need_part) := ⟨rfl, rfl, rfl, by decide +kernel, rfl, by decide +kernel, by decide +kernel⟩
noncomputable def b_need_part (Γ : Gam) : Fs := (sIf (tNt (tTru (eBlt (isiW Tx.tc Tx.kt) (aCons (rVar 0) (aCons (eC (.cls "Tree")) aNil))))) (fun _ _ => .bad) sNil)
theorem d_need_part {P : Program} {w : World} {K : PySem.W.Frag} {mg : Str → Option Value} {base : Heap} {cl : Str → Addr} {k : Nat} {Γ : Gam} {qual : Str} {f : Addr} {cdv : Value} {A : Around} {outer : List Env} {s : Shared} {H : Hp} {E : XK} {B : Bs} (hF : Fx K mg cl Tx) (hX : Ox K cl Tt) (hI : GetT K cl Tt) (hH : Hy P w K mg base cl (4 * k) Tx Γ)
    (h : Ctx (cxOf (CX P w) P w K mg base N_need_part qual (defScope st_need_part) f cdv A outer s H E) (fun cls d _ H => E cls d H) (4 * k + 3)) : SXs ⟨K, cl⟩ (cxOf (CX P w) P w K mg base N_need_part qual (defScope st_need_part) f cdv A outer s H E) (fun cls d _ H => E cls d H) B (defBody st_need_part) (b_need_part Γ) :=
  (x_one (x_if (t_not (t_truth (SE.rd (s_isi hF 12 (s_rvar 0) (SE.rd (s_cl hF 10)))))) (x_one x_bad) x_nil))

abbrev st_checked_parts : Stmt := (top 33)
abbrev N_checked_parts : List Str := ["parts", "part"]
theorem sc_checked_parts : FnScope N_checked_parts ["parts"] (defScope st_checked_parts) := ⟨rfl, rfl, rfl, by decide +kernel, rfl, by decide +kernel, by decide +kernel⟩
noncomputable def b_checked_parts (Γ : Gam) : Fs := (sSeq (sIf (tOrr (tNt (tTru (eCall 1 (Γ.f 2) [] (aCons (eVar 0) aNil)))) (tNt (tTru (eBlt allW (aCons (eL (nLc (iSeq (eVar 0)) [1] (bName 1) tYesM (eBlt (isiW Tx.tc Tx.kt) (aCons (rVar 1) (aCons (eC (.cls "Tree")) aNil))))) aNil))))) (fun _ _ => .bad) sNil)
    (sRet (eBlt tupleW (aCons (rVar 0) aNil))))
theorem d_checked_parts {P : Program} {w : World} {K : PySem.W.Frag} {mg : Str → Option Value} {base : Heap} {cl : Str → Addr} {k : Nat} {Γ : Gam} {qual : Str} {f : Addr} {cdv : Value} {A : Around} {outer : List Env} {s : Shared} {H : Hp} {E : XK} {B : Bs} (hF : Fx K mg cl Tx) (hX : Ox K cl Tt) (hI : GetT K cl Tt) (hH : Hy P w K mg base cl (4 * k) Tx Γ)
    (h : Ctx (cxOf (CX P w) P w K mg base N_checked_parts qual (defScope st_checked_parts) f cdv A outer s H E) (fun cls d _ H => E cls d H) (4 * k + 3)) : SXs ⟨K, cl⟩ (cxOf (CX P w) P w K mg base N_checked_parts qual (defScope st_checked_parts) f cdv A outer s H E) (fun cls d _ H => E cls d H) B (defBody st_checked_parts) (b_checked_parts Γ) :=
  (x_cons (x_if (PW.pt (t_or (t_not (t_truth (SE.rd (s_call (hH.fnAt 2) (h.hr.mono (by omega)) h.tk (a_cons (s_var 0) a_nil))))) (t_or1 (t_not (t_truth (SE.rd (s_all hF 10 h.calm (SE.rd (SN.se (n_lc h (own := [("part", 1)]) (i_seq (s_var 0)) (blkOk_by (N := N_checked_parts) (sc := defScope st_checked_parts) (by decide +kernel)) (by decide) (fun _ _ _ _ _ => (g_name h.nd rfl (by first | exact Or.inl rfl | exact Or.inr rfl))) (fun _ _ _ _ _ => ts_nil) (fun _ _ _ _ _ => (s_isi hF 12 (s_rvar 1) (SE.rd (s_cl hF 10)))))))))))))) (x_one x_bad) x_nil)
    (x_one (x_ret (s_tuple' (s_rvar 0) (hF.nog.at 3)))))

abbrev st_lines_of : Stmt := (top 34)
abbrev N_lines_of : List Str := ["head", "blocks", "tail", "lines", "block"]
theorem sc_lines_of : FnScope N_lines_of ["head", "blocks", "tail"] (defScope st_lines_of) := ⟨rfl, rfl, rfl, by decide +kernel, rfl, by decide +kernel, by decide +kernel⟩
noncomputable def b_lines_of (Γ : Gam) : Fs := (sSeq (sSetN 3 (nLst (aCons (eVar 0) aNil)))
    (sSeq (sFor (iSeq (eVar 1)) (bName 4) (sExt 3 (op1 (fldW Tx.ats "script") (rVar 4))))
    (sFrz 3 (sRet (eTup (aStar (rVar 3) (aStar (rVar 2) aNil)))))))
theorem d_lines_of {P : Program} {w : World} {K : PySem.W.Frag} {mg : Str → Option Value} {base : Heap} {cl : Str → Addr} {k : Nat} {Γ : Gam} {qual : Str} {f : Addr} {cdv : Value} {A : Around} {outer : List Env} {s : Shared} {H : Hp} {E : XK} {B : Bs} (hF : Fx K mg cl Tx) (hX : Ox K cl Tt) (hI : GetT K cl Tt) (hH : Hy P w K mg base cl (4 * k) Tx Γ)
    (h : Ctx (cxOf (CX P w) P w K mg base N_lines_of qual (defScope st_lines_of) f cdv A outer s H E) (fun cls d _ H => E cls d H) (4 * k + 3)) : SXs ⟨K, cl⟩ (cxOf (CX P w) P w K mg base N_lines_of qual (defScope st_lines_of) f cdv A outer s H E) (fun cls d _ H => E cls d H) B (defBody st_lines_of) (b_lines_of Γ) :=
  (x_cons (x_setN (i := 3) h.nd rfl (by first | exact Or.inl rfl | exact Or.inr rfl) (n_lst (a_cons (s_var 0) a_nil)))
    (x_cons (x_for h (i_seq (s_var 1)) (g_name h.nd rfl (by first | exact Or.inl rfl | exact Or.inr rfl)) (fun _ => (x_one (x_extend (i := 3) (s_fld hF.at_ rfl (s_rvar 4))))))
    (x_one (x_frz (x_ret (s_tup (a_star (s_rvar 3) (a_star (s_rvar 2) a_nil))))))))

abbrev st__law_deal : Stmt := (top 47)
abbrev N__law_deal : List Str := ["_law_script_here", "_law_base", "_law_cells", "_law_mixed", "_law_cell"]
theorem sc__law_deal : FnScope N__law_deal ["_law_script_here", "_law_base"] (defScope st__law_deal) := ⟨rfl, rfl, rfl, by decide +kernel, rfl, by decide +kernel, by decide +kernel⟩
noncomputable def b__law_deal (Γ : Gam) : Fs := (sSeq (sSeqF 2 (sSetN 2 (nLc (iSeq (eSl (rVar 0) (oSome (eVar 1)) (oSome (eC (.int 63))))) [4] (bName 4) tYesM (eBlt absW (aCons (rVar 4) aNil)))))
    (sSeq (sSet 3 (op2 addW (eC (.int 48611719)) (op2 mulW (eC (.int 13)) (rVar 1))))
    (sSeq (sFor (iSeq (eVar 2)) (bName 4) (sSet 3 (op2 modW (eBlt intW (aCons (op2 addW (op2 mulW (rVar 3) (eC (.int 16807))) (op2 modW (eBlt intW (aCons (rVar 4) aNil)) (eC (.int 2147483629)))) aNil)) (eC (.int 2147483647)))))
    (sRet (ePush (nLst (aCons (ePush (nRev (eL (nLc (iSeq (eVar 2)) [4] (bName 4) (tBl (op2 (cmpI fun i j => decide (j ≤ i)) (rVar 4) (op2 powW (eC (.int 10)) (eC (.int 18))))) (eVar 4))))) (aCons (eVar 3) aNil))))))))
theorem d__law_deal {P : Program} {w : World} {K : PySem.W.Frag} {mg : Str → Option Value} {base : Heap} {cl : Str → Addr} {k : Nat} {Γ : Gam} {qual : Str} {f : Addr} {cdv : Value} {A : Around} {outer : List Env} {s : Shared} {H : Hp} {E : XK} {B : Bs} (hF : Fx K mg cl Tx) (hX : Ox K cl Tt) (hI : GetT K cl Tt) (hH : Hy P w K mg base cl (4 * k) Tx Γ)
    (h : Ctx (cxOf (CX P w) P w K mg base N__law_deal qual (defScope st__law_deal) f cdv A outer s H E) (fun cls d _ H => E cls d H) (4 * k + 3)) : SXs ⟨K, cl⟩ (cxOf (CX P w) P w K mg base N__law_deal qual (defScope st__law_deal) f cdv A outer s H E) (fun cls d _ H => E cls d H) B (defBody st__law_deal) (b__law_deal Γ) :=
  (x_cons (x_seqF (x_setLc (i := 2) h rfl rfl (sw_true rfl rfl rfl (by decide +kernel)) (own := [("_law_cell", 4)]) (i_seq (s_slice (s_rvar 0) (o_some (s_var 1)) (o_some s_int))) (blkOk_by (N := N__law_deal) (sc := defScope st__law_deal) (by decide +kernel)) (by decide) (fun _ _ _ _ _ => (g_name h.nd rfl (by first | exact Or.inl rfl | exact Or.inr rfl))) (fun _ _ _ _ _ => ts_nil) (fun _ _ _ _ _ => (s_abs (s_rvar 4) (hF.nog.at 1)))))
    (x_cons (x_set (i := 3) h.nd rfl (by first | exact Or.inl rfl | exact Or.inr rfl) (s_bin o_add (SE.rd s_int) (SE.rd (s_bin o_mul (SE.rd s_int) (s_rvar 1)))))
    (x_cons (x_for h (i_seq (s_var 2)) (g_name h.nd rfl (by first | exact Or.inl rfl | exact Or.inr rfl)) (fun _ => (x_one (x_set (i := 3) h.nd rfl (by first | exact Or.inl rfl | exact Or.inr rfl) (s_bin o_mod (SE.rd (s_int' (SE.rd (s_bin o_add (SE.rd (s_bin o_mul (s_rvar 3) (SE.rd s_int))) (SE.rd (s_bin o_mod (SE.rd (s_int' (s_rvar 4) (hF.nog.at 2))) (SE.rd s_int))))) (hF.nog.at 2))) (SE.rd s_int))))))
    (x_one (x_ret (SN.push (n_lst (a_cons (SN.push (n_rev (SE.rd (SN.se (n_lc h (own := [("_law_cell", 4)]) (i_seq (s_var 2)) (blkOk_by (N := N__law_deal) (sc := defScope st__law_deal) (by decide +kernel)) (by decide) (fun _ _ _ _ _ => (g_name h.nd rfl (by first | exact Or.inl rfl | exact Or.inr rfl))) (fun _ _ _ _ _ => (ts_one (t_of_cmp o_ge (s_rvar 4) (SE.rd (s_bin o_pow (SE.rd s_int) (SE.rd s_int)))))) (fun _ _ _ _ _ => (s_var 4))))))) (a_cons (s_var 3) a_nil)))))))))

abbrev st__law_draw : Stmt := (top 48)
abbrev N__law_draw : List Str := ["_law_deal_here", "_law_many", "_law_left"]
theorem sc__law_draw : FnScope N__law_draw ["_law_deal_here", "_law_many"] (defScope st__law_draw) := ⟨rfl, rfl, rfl, by decide +kernel, rfl, by decide +kernel, by decide +kernel⟩
noncomputable def b__law_draw (Γ : Gam) : Fs := (sSeq (whW (tAn (tBl (op2 neW (op2 ixW (rVar 0) (eC (.int 0))) (eL (nLst aNil)))) (tBl (op2 eqW (op2 ixW (op2 ixW (rVar 0) (eC (.int 0))) (op1 negW (eC (.int 1)))) (eC (.int 0))))) (sExp (eMt popS (op2 ixW (rVar 0) (eC (.int 0))) aNil)) 1000)
    (sSeq (sIf (tBl (op2 neW (op2 ixW (rVar 0) (eC (.int 0))) (eL (nLst aNil)))) (sSeq (sSet 2 (eMt popS (op2 ixW (rVar 0) (eC (.int 0))) aNil))
    (sSeq (sExp (eMt appS (op2 ixW (rVar 0) (eC (.int 0))) (aCons (op2 fdivW (rVar 2) (rVar 1)) aNil)))
    (sRet (op2 modW (eBlt intW (aCons (rVar 2) aNil)) (rVar 1))))) sNil)
    (sSeq (sSetIx (op2 modW (eBlt intW (aCons (op2 addW (op2 mulW (op2 ixW (rVar 0) (eC (.int 1))) (eC (.int 48271))) (eC (.int 7))) aNil)) (eC (.int 2147483647))) (eVar 0) (eC (.int 1)))
    (sRet (op2 modW (eBlt intW (aCons (op2 fdivW (op2 ixW (rVar 0) (eC (.int 1))) (eC (.int 8))) aNil)) (rVar 1))))))
theorem d__law_draw {P : Program} {w : World} {K : PySem.W.Frag} {mg : Str → Option Value} {base : Heap} {cl : Str → Addr} {k : Nat} {Γ : Gam} {qual : Str} {f : Addr} {cdv : Value} {A : Around} {outer : List Env} {s : Shared} {H : Hp} {E : XK} {B : Bs} (hF : Fx K mg cl Tx) (hX : Ox K cl Tt) (hI : GetT K cl Tt) (hH : Hy P w K mg base cl (4 * k) Tx Γ)
    (h : Ctx (cxOf (CX P w) P w K mg base N__law_draw qual (defScope st__law_draw) f cdv A outer s H E) (fun cls d _ H => E cls d H) (4 * k + 3)) : SXs ⟨K, cl⟩ (cxOf (CX P w) P w K mg base N__law_draw qual (defScope st__law_draw) f cdv A outer s H E) (fun cls d _ H => E cls d H) B (defBody st__law_draw) (b__law_draw Γ) :=
  (x_cons (x_while h (PW.pt (t_and (t_of_cmp (o_ne h.hr) (SE.rd (s_ix i_x (s_rvar 0) (SE.rd s_int))) (SE.rd (SN.se (n_lst a_nil)))) (t_and1 (t_of_cmp (o_eq h.hr) (SE.rd (s_ix i_x (SE.rd (s_ix i_x (s_rvar 0) (SE.rd s_int))) (SE.rd (s_un u_neg (SE.rd s_int))))) (SE.rd s_int))))) (x_one (x_expr (s_pop (s_ix i_x (s_rvar 0) (SE.rd s_int))))))
    (x_cons (x_if (t_of_cmp (o_ne h.hr) (SE.rd (s_ix i_x (s_rvar 0) (SE.rd s_int))) (SE.rd (SN.se (n_lst a_nil)))) (x_cons (x_set (i := 2) h.nd rfl (by first | exact Or.inl rfl | exact Or.inr rfl) (s_pop (s_ix i_x (s_rvar 0) (SE.rd s_int))))
    (x_cons (x_expr (s_append (s_ix i_x (s_rvar 0) (SE.rd s_int)) (a_cons (s_bin o_fdiv (s_rvar 2) (s_rvar 1)) a_nil)))
    (x_one (x_ret (s_bin o_mod (SE.rd (s_int' (s_rvar 2) (hF.nog.at 2))) (s_rvar 1)))))) x_nil)
    (x_cons (x_setIx (s_bin o_mod (SE.rd (s_int' (SE.rd (s_bin o_add (SE.rd (s_bin o_mul (SE.rd (s_ix i_x (s_rvar 0) (SE.rd s_int))) (SE.rd s_int))) (SE.rd s_int))) (hF.nog.at 2))) (SE.rd s_int)) (s_var 0) s_int)
    (x_one (x_ret (s_bin o_mod (SE.rd (s_int' (SE.rd (s_bin o_fdiv (SE.rd (s_ix i_x (s_rvar 0) (SE.rd s_int))) (SE.rd s_int))) (hF.nog.at 2))) (s_rvar 1)))))))

abbrev st__law_pick : Stmt := (top 49)
abbrev N__law_pick : List Str := ["_law_deal_here", "_law_some"]
theorem sc__law_pick : FnScope N__law_pick ["_law_deal_here", "_law_some"] (defScope st__law_pick) := ⟨rfl, rfl, rfl, by decide +kernel, rfl, by decide +kernel, by decide +kernel⟩
noncomputable def b__law_pick (Γ : Gam) : Fs := (sRet (op2 ixW (rVar 1) (eCall 2 (Γ.f 8) [] (aCons (eVar 0) (aCons (eBlt lenW (aCons (rVar 1) aNil)) aNil)))))
theorem d__law_pick {P : Program} {w : World} {K : PySem.W.Frag} {mg : Str → Option Value} {base : Heap} {cl : Str → Addr} {k : Nat} {Γ : Gam} {qual : Str} {f : Addr} {cdv : Value} {A : Around} {outer : List Env} {s : Shared} {H : Hp} {E : XK} {B : Bs} (hF : Fx K mg cl Tx) (hX : Ox K cl Tt) (hI : GetT K cl Tt) (hH : Hy P w K mg base cl (4 * k) Tx Γ)
    (h : Ctx (cxOf (CX P w) P w K mg base N__law_pick qual (defScope st__law_pick) f cdv A outer s H E) (fun cls d _ H => E cls d H) (4 * k + 3)) : SXs ⟨K, cl⟩ (cxOf (CX P w) P w K mg base N__law_pick qual (defScope st__law_pick) f cdv A outer s H E) (fun cls d _ H => E cls d H) B (defBody st__law_pick) (b__law_pick Γ) :=
  (x_one (x_ret (s_ix i_x (s_rvar 1) (SE.rd (s_call (hH.fnAt 9) (h.hr.mono (by omega)) h.tk (a_cons (s_var 0) (a_cons (s_len (s_rvar 1) (hF.nog.at 0)) a_nil)))))))

abbrev st__law_name : Stmt := (top 50)
abbrev N__law_name : List Str := ["_law_deal_here", "_law_words", "_law_letters", "_law_k"]
theorem sc__law_name : FnScope N__law_name ["_law_deal_here"] (defScope st__law_name) := ⟨rfl, rfl, rfl, by decide +kernel, rfl, by decide +kernel, by decide +kernel⟩
noncomputable def b__law_name (Γ : Gam) : Fs := (sSeq (sSet 1 (eL (nLst (aCons (eC (.str "a")) (aCons (eC (.str "b")) (aCons (eC (.str "ab")) (aCons (eC (.str "abc")) (aCons (eC (.str "abca")) (aCons (eC (.str "end")) (aCons (eC (.str "row")) (aCons (eC (.str "do")) (aCons (eC (.str "ask")) (aCons (eC (.str "if")) (aCons (eC (.str "not")) (aCons (eC (.str "well")) (aCons (eC (.str "ill")) aNil))))))))))))))))
    (sSeq (sIf (tBl (op2 eqW (eCall 2 (Γ.f 8) [] (aCons (eVar 0) (aCons (eC (.int 2)) aNil))) (eC (.int 0)))) (sRet (eCall 2 (Γ.f 9) [] (aCons (eVar 0) (aCons (op2 addW (rVar 1) (eL (nLst (aCons (eC (.str "kept")) (aCons (eC (.str "zzzz")) (aCons (eC (.str "q")) aNil)))))) aNil)))) sNil)
    (sSeq (sSet 2 (eC (.str "abcdefghijklmnopqrstuvwxyz")))
    (sRet (eJoin (eC (.str "")) (eL (nLc (iRng rng1 (aCons (op2 addW (eC (.int 1)) (eCall 2 (Γ.f 8) [] (aCons (eVar 0) (aCons (eC (.int 4)) aNil)))) aNil)) [3] (bName 3) tYesM (op2 ixW (rVar 2) (eCall 2 (Γ.f 8) [] (aCons (eVar 0) (aCons (eC (.int 26)) aNil)))))))))))
theorem d__law_name {P : Program} {w : World} {K : PySem.W.Frag} {mg : Str → Option Value} {base : Heap} {cl : Str → Addr} {k : Nat} {Γ : Gam} {qual : Str} {f : Addr} {cdv : Value} {A : Around} {outer : List Env} {s : Shared} {H : Hp} {E : XK} {B : Bs} (hF : Fx K mg cl Tx) (hX : Ox K cl Tt) (hI : GetT K cl Tt) (hH : Hy P w K mg base cl (4 * k) Tx Γ)
    (h : Ctx (cxOf (CX P w) P w K mg base N__law_name qual (defScope st__law_name) f cdv A outer s H E) (fun cls d _ H => E cls d H) (4 * k + 3)) : SXs ⟨K, cl⟩ (cxOf (CX P w) P w K mg base N__law_name qual (defScope st__law_name) f cdv A outer s H E) (fun cls d _ H => E cls d H) B (defBody st__law_name) (b__law_name Γ) :=
  (x_cons (x_set (i := 1) h.nd rfl (by first | exact Or.inl rfl | exact Or.inr rfl) (SN.se (n_lst (a_cons s_str (a_cons s_str (a_cons s_str (a_cons s_str (a_cons s_str (a_cons s_str (a_cons s_str (a_cons s_str (a_cons s_str (a_cons s_str (a_cons s_str (a_cons s_str (a_cons s_str a_nil))))))))))))))))
    (x_cons (x_if (t_of_cmp (o_eq h.hr) (SE.rd (s_call (hH.fnAt 9) (h.hr.mono (by omega)) h.tk (a_cons (s_var 0) (a_cons s_int a_nil)))) (SE.rd s_int)) (x_one (x_ret (s_call (hH.fnAt 10) (h.hr.mono (by omega)) h.tk (a_cons (s_var 0) (a_cons (s_bin o_add (s_rvar 1) (SE.rd (SN.se (n_lst (a_cons s_str (a_cons s_str (a_cons s_str a_nil))))))) a_nil))))) x_nil)
    (x_cons (x_set (i := 2) h.nd rfl (by first | exact Or.inl rfl | exact Or.inr rfl) s_str)
    (x_one (x_ret (s_join s_str (SE.rd (SN.se (n_lc h (own := [("_law_k", 3)]) (i_range1 (a_cons (s_bin o_add (SE.rd s_int) (SE.rd (s_call (hH.fnAt 9) (h.hr.mono (by omega)) h.tk (a_cons (s_var 0) (a_cons s_int a_nil))))) a_nil) (hF.nog.at 6)) (blkOk_by (N := N__law_name) (sc := defScope st__law_name) (by decide +kernel)) (by decide) (fun _ _ _ _ _ => (g_name h.nd rfl (by first | exact Or.inl rfl | exact Or.inr rfl))) (fun _ _ _ _ _ => ts_nil) (fun _ _ _ _ _ => (s_ix i_x (s_rvar 2) (SE.rd (s_call (hH.fnAt 9) (h.hr.mono (by omega)) takes0 (a_cons (s_var 0) (a_cons s_int a_nil)))))))))))))))

abbrev st__law_kids : Stmt := (top 51)
abbrev N__law_kids : List Str := ["_law_deal_here", "_law_room", "_law_deep", "_law_least", "_law_found", "_law_k"]
theorem sc__law_kids : FnScope N__law_kids ["_law_deal_here", "_law_room", "_law_deep", "_law_least"] (defScope st__law_kids) := ⟨rfl, rfl, rfl, by decide +kernel, rfl, by decide +kernel, by decide +kernel⟩
noncomputable def b__law_kids (Γ : Gam) : Fs := (sSeq (sSetN 4 (nLc (iRng rng1 (aCons (eVar 3) aNil)) [5] (bName 5) tYesM (eCall 3 (Γ.f 12) [] (aCons (eVar 0) (aCons (eVar 1) (aCons (op2 subW (rVar 2) (eC (.int 1))) aNil))))))
    (sSeq (whW (tAn (tBl (op2 (cmpI fun i j => decide (j < i)) (op2 ixW (rVar 1) (eC (.int 0))) (eC (.int 0)))) (tBl (op2 (cmpI fun i j => decide (j < i)) (eCall 2 (Γ.f 8) [] (aCons (eVar 0) (aCons (eC (.int 3)) aNil))) (eC (.int 0))))) (sApp 4 (eCall 3 (Γ.f 12) [] (aCons (eVar 0) (aCons (eVar 1) (aCons (op2 subW (rVar 2) (eC (.int 1))) aNil))))) 1000)
    (sRet (eBlt tupleW (aCons (rVar 4) aNil)))))
theorem d__law_kids {P : Program} {w : World} {K : PySem.W.Frag} {mg : Str → Option Value} {base : Heap} {cl : Str → Addr} {k : Nat} {Γ : Gam} {qual : Str} {f : Addr} {cdv : Value} {A : Around} {outer : List Env} {s : Shared} {H : Hp} {E : XK} {B : Bs} (hF : Fx K mg cl Tx) (hX : Ox K cl Tt) (hI : GetT K cl Tt) (hH : Hy P w K mg base cl (4 * k) Tx Γ)
    (h : Ctx (cxOf (CX P w) P w K mg base N__law_kids qual (defScope st__law_kids) f cdv A outer s H E) (fun cls d _ H => E cls d H) (4 * k + 3)) : SXs ⟨K, cl⟩ (cxOf (CX P w) P w K mg base N__law_kids qual (defScope st__law_kids) f cdv A outer s H E) (fun cls d _ H => E cls d H) B (defBody st__law_kids) (b__law_kids Γ) :=
  (x_cons (x_setLc (i := 4) h rfl rfl (sw_true rfl rfl rfl (by decide +kernel)) (own := [("_law_k", 5)]) (i_range1 (a_cons (s_var 3) a_nil) (hF.nog.at 6)) (blkOk_by (N := N__law_kids) (sc := defScope st__law_kids) (by decide +kernel)) (by decide) (fun _ _ _ _ _ => (g_name h.nd rfl (by first | exact Or.inl rfl | exact Or.inr rfl))) (fun _ _ _ _ _ => ts_nil) (fun _ _ _ _ _ => (s_call (hH.fnAt 13) (h.hr.mono (by omega)) takes0 (a_cons (s_var 0) (a_cons (s_var 1) (a_cons (s_bin o_sub (s_rvar 2) (SE.rd s_int)) a_nil))))))
    (x_cons (x_while h (PW.pt (t_and (t_of_cmp o_gt (SE.rd (s_ix i_x (s_rvar 1) (SE.rd s_int))) (SE.rd s_int)) (t_and1 (t_of_cmp o_gt (SE.rd (s_call (hH.fnAt 9) (h.hr.mono (by omega)) h.tk (a_cons (s_var 0) (a_cons s_int a_nil)))) (SE.rd s_int))))) (x_one (x_append (i := 4) (s_call (hH.fnAt 13) (h.hr.mono (by omega)) h.tk (a_cons (s_var 0) (a_cons (s_var 1) (a_cons (s_bin o_sub (s_rvar 2) (SE.rd s_int)) a_nil)))))))
    (x_one (x_ret (s_tuple' (s_rvar 4) (hF.nog.at 3))))))

abbrev st__law_grown : Stmt := (top 52)
abbrev N__law_grown : List Str := ["_law_deal_here", "_law_room", "_law_deep", "_law_form", "_law_parts", "_law_word", "_law_kept"]
theorem sc__law_grown : FnScope N__law_grown ["_law_deal_here", "_law_room", "_law_deep"] (defScope st__law_grown) := ⟨rfl, rfl, rfl, by decide +kernel, rfl, by decide +kernel, by decide +kernel⟩
noncomputable def b__law_grown (Γ : Gam) : Fs := (sSeq (sSetIx (op2 subW (op2 ixW (rVar 1) (eC (.int 0))) (eC (.int 1))) (eVar 1) (eC (.int 0)))
    (sSeq (sSet 3 (eCall 2 (Γ.f 8) [] (aCons (eVar 0) (aCons (eC (.int 12)) aNil))))
    (sSeq (sIf (tOrr (tBl (op2 (cmpI fun i j => decide (i < j)) (rVar 2) (eC (.int 1)))) (tOrr (tBl (op2 (cmpI fun i j => decide (i < j)) (op2 ixW (rVar 1) (eC (.int 0))) (eC (.int 1)))) (tBl (op2 (cmpI fun i j => decide (i < j)) (rVar 3) (eC (.int 2)))))) (sRet (eTup (aCons (eCall 2 (Γ.f 9) [] (aCons (eVar 0) (aCons (eL (nLst (aCons (eC (.str "do")) (aCons (eC (.str "do")) (aCons (eC (.str "ask")) aNil))))) aNil))) (aCons (eCall 1 (Γ.f 10) [] (aCons (eVar 0) aNil)) aNil)))) sNil)
    (sSeq (sIf (tBl (op2 (cmpI fun i j => decide (i < j)) (rVar 3) (eC (.int 6)))) (sSeq (sPar 5 6 (aCons (eCall 2 (Γ.f 9) [] (aCons (eVar 0) (aCons (eL (nLst (aCons (eC (.str "row")) (aCons (eC (.str "first")) aNil)))) aNil))) (aCons (op2 eqW (eCall 2 (Γ.f 8) [] (aCons (eVar 0) (aCons (eC (.int 2)) aNil))) (eC (.int 0))) aNil)))
    (sRet (eTup (aCons (eVar 5) (aCons (eVar 6) (aCons (eCall 4 (Γ.f 11) [] (aCons (eVar 0) (aCons (eVar 1) (aCons (eVar 2) (aCons (eC (.int 0)) aNil))))) aNil)))))) sNil)
    (sSeq (sIf (tBl (op2 (cmpI fun i j => decide (i < j)) (rVar 3) (eC (.int 8)))) (sSeq (sSet 4 (eCall 4 (Γ.f 11) [] (aCons (eVar 0) (aCons (eVar 1) (aCons (eVar 2) (aCons (eC (.int 1)) aNil))))))
    (sRet (eTup (aCons (eC (.str "beside")) (aCons (op2 addW (eC (.int 1)) (eCall 2 (Γ.f 8) [] (aCons (eVar 0) (aCons (eBlt lenW (aCons (rVar 4) aNil)) aNil)))) (aCons (eVar 4) aNil)))))) sNil)
    (sSeq (sIf (tBl (op2 eqW (rVar 3) (eC (.int 8)))) (sRet (eTup (aCons (eC (.str "again")) (aCons (eCall 2 (Γ.f 9) [] (aCons (eVar 0) (aCons (eL (nLst (aCons (eC .non) (aCons (eC (.int 1)) (aCons (eC (.int 2)) (aCons (eC (.int 9)) aNil)))))) aNil))) (aCons (eCall 3 (Γ.f 12) [] (aCons (eVar 0) (aCons (eVar 1) (aCons (op2 subW (rVar 2) (eC (.int 1))) aNil)))) aNil))))) sNil)
    (sSeq (sIf (tBl (op2 eqW (rVar 3) (eC (.int 9)))) (sRet (eTup (aCons (eCall 2 (Γ.f 9) [] (aCons (eVar 0) (aCons (eL (nLst (aCons (eC (.str "while")) (aCons (eC (.str "if")) aNil)))) aNil))) (aCons (eCall 1 (Γ.f 10) [] (aCons (eVar 0) aNil)) (aCons (eCall 3 (Γ.f 12) [] (aCons (eVar 0) (aCons (eVar 1) (aCons (op2 subW (rVar 2) (eC (.int 1))) aNil)))) aNil))))) sNil)
    (sSeq (sIf (tBl (op2 eqW (rVar 3) (eC (.int 10)))) (sRet (eTup (aCons (eC (.str "not")) (aCons (eCall 3 (Γ.f 12) [] (aCons (eVar 0) (aCons (eVar 1) (aCons (op2 subW (rVar 2) (eC (.int 1))) aNil)))) aNil)))) sNil)
    (sRet (eTup (aCons (eC (.str "always")) (aCons (eCall 2 (Γ.f 9) [] (aCons (eVar 0) (aCons (eL (nLst (aCons (eC (.str "well")) (aCons (eC (.str "ill")) aNil)))) aNil))) (aCons (eCall 3 (Γ.f 12) [] (aCons (eVar 0) (aCons (eVar 1) (aCons (op2 subW (rVar 2) (eC (.int 1))) aNil)))) aNil)))))))))))))
theorem d__law_grown {P : Program} {w : World} {K : PySem.W.Frag} {mg : Str → Option Value} {base : Heap} {cl : Str → Addr} {k : Nat} {Γ : Gam} {qual : Str} {f : Addr} {cdv : Value} {A : Around} {outer : List Env} {s : Shared} {H : Hp} {E : XK} {B : Bs} (hF : Fx K mg cl Tx) (hX : Ox K cl Tt) (hI : GetT K cl Tt) (hH : Hy P w K mg base cl (4 * k) Tx Γ)
    (h : Ctx (cxOf (CX P w) P w K mg base N__law_grown qual (defScope st__law_grown) f cdv A outer s H E) (fun cls d _ H => E cls d H) (4 * k + 3)) : SXs ⟨K, cl⟩ (cxOf (CX P w) P w K mg base N__law_grown qual (defScope st__law_grown) f cdv A outer s H E) (fun cls d _ H => E cls d H) B (defBody st__law_grown) (b__law_grown Γ) :=
  (x_cons (x_setIx (s_bin o_sub (SE.rd (s_ix i_x (s_rvar 1) (SE.rd s_int))) (SE.rd s_int)) (s_var 1) s_int)
    (x_cons (x_set (i := 3) h.nd rfl (by first | exact Or.inl rfl | exact Or.inr rfl) (s_call (hH.fnAt 9) (h.hr.mono (by omega)) h.tk (a_cons (s_var 0) (a_cons s_int a_nil))))
    (x_cons (x_if (PW.pt (t_or (t_of_cmp o_lt (s_rvar 2) (SE.rd s_int)) (t_or (t_of_cmp o_lt (SE.rd (s_ix i_x (s_rvar 1) (SE.rd s_int))) (SE.rd s_int)) (t_or1 (t_of_cmp o_lt (s_rvar 3) (SE.rd s_int)))))) (x_one (x_ret (s_tup (a_cons (s_call (hH.fnAt 10) (h.hr.mono (by omega)) h.tk (a_cons (s_var 0) (a_cons (SN.se (n_lst (a_cons s_str (a_cons s_str (a_cons s_str a_nil))))) a_nil))) (a_cons (s_call (hH.fnAt 11) (h.hr.mono (by omega)) h.tk (a_cons (s_var 0) a_nil)) a_nil))))) x_nil)
    (x_cons (x_if (t_of_cmp o_lt (s_rvar 3) (SE.rd s_int)) (x_cons (x_par (es := []) (i := 5) (j := 6) h.calm h.nd (by decide) (a_cons (s_call (hH.fnAt 10) (h.hr.mono (by omega)) h.tk (a_cons (s_var 0) (a_cons (SN.se (n_lst (a_cons s_str (a_cons s_str a_nil)))) a_nil))) (a_cons (s_cmp (o_eq h.hr) (SE.rd (s_call (hH.fnAt 9) (h.hr.mono (by omega)) h.tk (a_cons (s_var 0) (a_cons s_int a_nil)))) (SE.rd s_int)) a_nil)))
    (x_one (x_ret (s_tup (a_cons (s_var 5) (a_cons (s_var 6) (a_cons (s_call (hH.fnAt 12) (h.hr.mono (by omega)) h.tk (a_cons (s_var 0) (a_cons (s_var 1) (a_cons (s_var 2) (a_cons s_int a_nil))))) a_nil))))))) x_nil)
    (x_cons (x_if (t_of_cmp o_lt (s_rvar 3) (SE.rd s_int)) (x_cons (x_set (i := 4) h.nd rfl (by first | exact Or.inl rfl | exact Or.inr rfl) (s_call (hH.fnAt 12) (h.hr.mono (by omega)) h.tk (a_cons (s_var 0) (a_cons (s_var 1) (a_cons (s_var 2) (a_cons s_int a_nil))))))
    (x_one (x_ret (s_tup (a_cons s_str (a_cons (s_bin o_add (SE.rd s_int) (SE.rd (s_call (hH.fnAt 9) (h.hr.mono (by omega)) h.tk (a_cons (s_var 0) (a_cons (s_len (s_rvar 4) (hF.nog.at 0)) a_nil))))) (a_cons (s_var 4) a_nil))))))) x_nil)
    (x_cons (x_if (t_of_cmp (o_eq h.hr) (s_rvar 3) (SE.rd s_int)) (x_one (x_ret (s_tup (a_cons s_str (a_cons (s_call (hH.fnAt 10) (h.hr.mono (by omega)) h.tk (a_cons (s_var 0) (a_cons (SN.se (n_lst (a_cons s_non (a_cons s_int (a_cons s_int (a_cons s_int a_nil)))))) a_nil))) (a_cons (s_call (hH.fnAt 13) (h.hr.mono (by omega)) h.tk (a_cons (s_var 0) (a_cons (s_var 1) (a_cons (s_bin o_sub (s_rvar 2) (SE.rd s_int)) a_nil)))) a_nil)))))) x_nil)
    (x_cons (x_if (t_of_cmp (o_eq h.hr) (s_rvar 3) (SE.rd s_int)) (x_one (x_ret (s_tup (a_cons (s_call (hH.fnAt 10) (h.hr.mono (by omega)) h.tk (a_cons (s_var 0) (a_cons (SN.se (n_lst (a_cons s_str (a_cons s_str a_nil)))) a_nil))) (a_cons (s_call (hH.fnAt 11) (h.hr.mono (by omega)) h.tk (a_cons (s_var 0) a_nil)) (a_cons (s_call (hH.fnAt 13) (h.hr.mono (by omega)) h.tk (a_cons (s_var 0) (a_cons (s_var 1) (a_cons (s_bin o_sub (s_rvar 2) (SE.rd s_int)) a_nil)))) a_nil)))))) x_nil)
    (x_cons (x_if (t_of_cmp (o_eq h.hr) (s_rvar 3) (SE.rd s_int)) (x_one (x_ret (s_tup (a_cons s_str (a_cons (s_call (hH.fnAt 13) (h.hr.mono (by omega)) h.tk (a_cons (s_var 0) (a_cons (s_var 1) (a_cons (s_bin o_sub (s_rvar 2) (SE.rd s_int)) a_nil)))) a_nil))))) x_nil)
    (x_one (x_ret (s_tup (a_cons s_str (a_cons (s_call (hH.fnAt 10) (h.hr.mono (by omega)) h.tk (a_cons (s_var 0) (a_cons (SN.se (n_lst (a_cons s_str (a_cons s_str a_nil)))) a_nil))) (a_cons (s_call (hH.fnAt 13) (h.hr.mono (by omega)) h.tk (a_cons (s_var 0) (a_cons (s_var 1) (a_cons (s_bin o_sub (s_rvar 2) (SE.rd s_int)) a_nil)))) a_nil))))))))))))))

abbrev st__law_blocks : Stmt := (top 53)
abbrev N__law_blocks : List Str := ["_law_told"]
theorem sc__law_blocks : FnScope N__law_blocks ["_law_told"] (defScope st__law_blocks) := ⟨rfl, rfl, rfl, by decide +kernel, rfl, by decide +kernel, by decide +kernel⟩
noncomputable def b__law_blocks (Γ : Gam) : Fs := (sSeq (sIf (tBl (op2 inW (op2 ixW (rVar 0) (eC (.int 0))) (eTup (aCons (eC (.str "do")) (aCons (eC (.str "ask")) aNil))))) (sRet (eTup aNil)) sNil)
    (sRet (eIf (tBl (op2 inW (op2 ixW (rVar 0) (eC (.int 0))) (eTup (aCons (eC (.str "row")) (aCons (eC (.str "first")) (aCons (eC (.str "beside")) aNil)))))) (op2 ixW (rVar 0) (eC (.int 2))) (eTup (aCons (op2 ixW (rVar 0) (op1 negW (eC (.int 1)))) aNil)))))
theorem d__law_blocks {P : Program} {w : World} {K : PySem.W.Frag} {mg : Str → Option Value} {base : Heap} {cl : Str → Addr} {k : Nat} {Γ : Gam} {qual : Str} {f : Addr} {cdv : Value} {A : Around} {outer : List Env} {s : Shared} {H : Hp} {E : XK} {B : Bs} (hF : Fx K mg cl Tx) (hX : Ox K cl Tt) (hI : GetT K cl Tt) (hH : Hy P w K mg base cl (4 * k) Tx Γ)
    (h : Ctx (cxOf (CX P w) P w K mg base N__law_blocks qual (defScope st__law_blocks) f cdv A outer s H E) (fun cls d _ H => E cls d H) (4 * k + 3)) : SXs ⟨K, cl⟩ (cxOf (CX P w) P w K mg base N__law_blocks qual (defScope st__law_blocks) f cdv A outer s H E) (fun cls d _ H => E cls d H) B (defBody st__law_blocks) (b__law_blocks Γ) :=
  (x_cons (x_if (t_of_cmp o_in (SE.rd (s_ix i_x (s_rvar 0) (SE.rd s_int))) (SE.rd (s_tup (a_cons s_str (a_cons s_str a_nil))))) (x_one (x_ret (s_tup a_nil))) x_nil)
    (x_one (x_ret (s_if (t_of_cmp o_in (SE.rd (s_ix i_x (s_rvar 0) (SE.rd s_int))) (SE.rd (s_tup (a_cons s_str (a_cons s_str (a_cons s_str a_nil)))))) (s_ix i_x (s_rvar 0) (SE.rd s_int)) (s_tup (a_cons (s_ix i_x (s_rvar 0) (SE.rd (s_un u_neg (SE.rd s_int)))) a_nil))))))

abbrev st__law_head : Stmt := (top 54)
abbrev N__law_head : List Str := ["_law_told"]
theorem sc__law_head : FnScope N__law_head ["_law_told"] (defScope st__law_head) := ⟨rfl, rfl, rfl, by decide +kernel, rfl, by decide +kernel, by decide +kernel⟩
noncomputable def b__law_head (Γ : Gam) : Fs := (sSeq (sIf (tBl (op2 inW (op2 ixW (rVar 0) (eC (.int 0))) (eTup (aCons (eC (.str "row")) (aCons (eC (.str "first")) aNil))))) (sRet (op2 addW (op2 ixW (rVar 0) (eC (.int 0))) (eIf (tTru (op2 ixW (rVar 0) (eC (.int 1)))) (eC (.str " kept")) (eC (.str ""))))) sNil)
    (sSeq (sIf (tOrr (tBl (op2 eqW (op2 ixW (rVar 0) (eC (.int 0))) (eC (.str "not")))) (tAn (tBl (op2 eqW (op2 ixW (rVar 0) (eC (.int 0))) (eC (.str "again")))) (tBl (op2 isNW (op2 ixW (rVar 0) (eC (.int 1))) (eC .non))))) (sRet (op2 ixW (rVar 0) (eC (.int 0)))) sNil)
    (sRet (op2 addW (op2 addW (op2 ixW (rVar 0) (eC (.int 0))) (eC (.str " "))) (e1M (strM Tt (Γ.m 6)) (op2 ixW (rVar 0) (eC (.int 1))))))))
theorem d__law_head {P : Program} {w : World} {K : PySem.W.Frag} {mg : Str → Option Value} {base : Heap} {cl : Str → Addr} {k : Nat} {Γ : Gam} {qual : Str} {f : Addr} {cdv : Value} {A : Around} {outer : List Env} {s : Shared} {H : Hp} {E : XK} {B : Bs} (hF : Fx K mg cl Tx) (hX : Ox K cl Tt) (hI : GetT K cl Tt) (hH : Hy P w K mg base cl (4 * k) Tx Γ)
    (h : Ctx (cxOf (CX P w) P w K mg base N__law_head qual (defScope st__law_head) f cdv A outer s H E) (fun cls d _ H => E cls d H) (4 * k + 3)) : SXs ⟨K, cl⟩ (cxOf (CX P w) P w K mg base N__law_head qual (defScope st__law_head) f cdv A outer s H E) (fun cls d _ H => E cls d H) B (defBody st__law_head) (b__law_head Γ) :=
  (x_cons (x_if (t_of_cmp o_in (SE.rd (s_ix i_x (s_rvar 0) (SE.rd s_int))) (SE.rd (s_tup (a_cons s_str (a_cons s_str a_nil))))) (x_one (x_ret (s_bin o_add (SE.rd (s_ix i_x (s_rvar 0) (SE.rd s_int))) (SE.rd (s_if (t_truth (SE.rd (s_ix i_x (s_rvar 0) (SE.rd s_int)))) s_str s_str))))) x_nil)
    (x_cons (x_if (PW.pt (t_or (t_of_cmp (o_eq h.hr) (SE.rd (s_ix i_x (s_rvar 0) (SE.rd s_int))) (SE.rd s_str)) (t_or1 (PW.pt (t_and (t_of_cmp (o_eq h.hr) (SE.rd (s_ix i_x (s_rvar 0) (SE.rd s_int))) (SE.rd s_str)) (t_and1 (t_of_cmp o_isN (SE.rd (s_ix i_x (s_rvar 0) (SE.rd s_int))) (SE.rd s_non)))))))) (x_one (x_ret (s_ix i_x (s_rvar 0) (SE.rd s_int)))) x_nil)
    (x_one (x_ret (s_bin o_add (SE.rd (s_bin o_add (SE.rd (s_ix i_x (s_rvar 0) (SE.rd s_int))) (SE.rd s_str))) (SE.rd (s_str' (hH.metsOf (by decide +kernel)) (h.hr.mono (by omega)) h.tk (s_ix i_x (s_rvar 0) (SE.rd s_int)) (hF.nog.at 7))))))))

abbrev st__law_script : Stmt := (top 55)
abbrev N__law_script : List Str := ["_law_told", "_law_found", "_law_part"]
theorem sc__law_script : FnScope N__law_script ["_law_told"] (defScope st__law_script) := ⟨rfl, rfl, rfl, by decide +kernel, rfl, by decide +kernel, by decide +kernel⟩
noncomputable def b__law_script (Γ : Gam) : Fs := (sSeq (sSet 1 (eL (nLst (aCons (eCall 1 (Γ.f 14) [] (aCons (eVar 0) aNil)) aNil))))
    (sSeq (sFor (iSeq (eCall 1 (Γ.f 13) [] (aCons (eVar 0) aNil))) (bName 2) (sSet 1 (op2 addW (rVar 1) (eCall 1 (Γ.f 15) [] (aCons (eVar 2) aNil)))))
    (sRet (op2 addW (rVar 1) (eIf (tBl (op2 inW (op2 ixW (rVar 0) (eC (.int 0))) (eTup (aCons (eC (.str "row")) (aCons (eC (.str "first")) (aCons (eC (.str "beside")) aNil)))))) (eL (nLst (aCons (eC (.str "end")) aNil))) (eL (nLst aNil)))))))
theorem d__law_script {P : Program} {w : World} {K : PySem.W.Frag} {mg : Str → Option Value} {base : Heap} {cl : Str → Addr} {k : Nat} {Γ : Gam} {qual : Str} {f : Addr} {cdv : Value} {A : Around} {outer : List Env} {s : Shared} {H : Hp} {E : XK} {B : Bs} (hF : Fx K mg cl Tx) (hX : Ox K cl Tt) (hI : GetT K cl Tt) (hH : Hy P w K mg base cl (4 * k) Tx Γ)
    (h : Ctx (cxOf (CX P w) P w K mg base N__law_script qual (defScope st__law_script) f cdv A outer s H E) (fun cls d _ H => E cls d H) (4 * k + 3)) : SXs ⟨K, cl⟩ (cxOf (CX P w) P w K mg base N__law_script qual (defScope st__law_script) f cdv A outer s H E) (fun cls d _ H => E cls d H) B (defBody st__law_script) (b__law_script Γ) :=
  (x_cons (x_set (i := 1) h.nd rfl (by first | exact Or.inl rfl | exact Or.inr rfl) (SN.se (n_lst (a_cons (s_call (hH.fnAt 15) (h.hr.mono (by omega)) h.tk (a_cons (s_var 0) a_nil)) a_nil))))
    (x_cons (x_for h (i_seq (s_call (hH.fnAt 14) (h.hr.mono (by omega)) h.tk (a_cons (s_var 0) a_nil))) (g_name h.nd rfl (by first | exact Or.inl rfl | exact Or.inr rfl)) (fun _ => (x_one (x_set (i := 1) h.nd rfl (by first | exact Or.inl rfl | exact Or.inr rfl) (s_bin o_add (s_rvar 1) (SE.rd (s_call (hH.fnAt 16) (h.hr.mono (by omega)) h.tk (a_cons (s_var 2) a_nil))))))))
    (x_one (x_ret (s_bin o_add (s_rvar 1) (SE.rd (s_if (t_of_cmp o_in (SE.rd (s_ix i_x (s_rvar 0) (SE.rd s_int))) (SE.rd (s_tup (a_cons s_str (a_cons s_str (a_cons s_str a_nil)))))) (SN.se (n_lst (a_cons s_str a_nil))) (SN.se (n_lst a_nil)))))))))

abbrev st__law_nodes : Stmt := (top 56)
abbrev N__law_nodes : List Str := ["_law_told", "_law_found", "_law_part"]
theorem sc__law_nodes : FnScope N__law_nodes ["_law_told"] (defScope st__law_nodes) := ⟨rfl, rfl, rfl, by decide +kernel, rfl, by decide +kernel, by decide +kernel⟩
noncomputable def b__law_nodes (Γ : Gam) : Fs := (sSeq (sSet 1 (eL (nLst (aCons (eVar 0) aNil))))
    (sSeq (sFor (iSeq (eCall 1 (Γ.f 13) [] (aCons (eVar 0) aNil))) (bName 2) (sSet 1 (op2 addW (rVar 1) (eCall 1 (Γ.f 16) [] (aCons (eVar 2) aNil)))))
    (sRet (eVar 1))))
theorem d__law_nodes {P : Program} {w : World} {K : PySem.W.Frag} {mg : Str → Option Value} {base : Heap} {cl : Str → Addr} {k : Nat} {Γ : Gam} {qual : Str} {f : Addr} {cdv : Value} {A : Around} {outer : List Env} {s : Shared} {H : Hp} {E : XK} {B : Bs} (hF : Fx K mg cl Tx) (hX : Ox K cl Tt) (hI : GetT K cl Tt) (hH : Hy P w K mg base cl (4 * k) Tx Γ)
    (h : Ctx (cxOf (CX P w) P w K mg base N__law_nodes qual (defScope st__law_nodes) f cdv A outer s H E) (fun cls d _ H => E cls d H) (4 * k + 3)) : SXs ⟨K, cl⟩ (cxOf (CX P w) P w K mg base N__law_nodes qual (defScope st__law_nodes) f cdv A outer s H E) (fun cls d _ H => E cls d H) B (defBody st__law_nodes) (b__law_nodes Γ) :=
  (x_cons (x_set (i := 1) h.nd rfl (by first | exact Or.inl rfl | exact Or.inr rfl) (SN.se (n_lst (a_cons (s_var 0) a_nil))))
    (x_cons (x_for h (i_seq (s_call (hH.fnAt 14) (h.hr.mono (by omega)) h.tk (a_cons (s_var 0) a_nil))) (g_name h.nd rfl (by first | exact Or.inl rfl | exact Or.inr rfl)) (fun _ => (x_one (x_set (i := 1) h.nd rfl (by first | exact Or.inl rfl | exact Or.inr rfl) (s_bin o_add (s_rvar 1) (SE.rd (s_call (hH.fnAt 17) (h.hr.mono (by omega)) h.tk (a_cons (s_var 2) a_nil))))))))
    (x_one (x_ret (s_var 1)))))

abbrev st__law_make : Stmt := (top 57)
abbrev N__law_make : List Str := ["_law_told", "_law_some", "_law_part"]
theorem sc__law_make : FnScope N__law_make ["_law_told"] (defScope st__law_make) := ⟨rfl, rfl, rfl, by decide +kernel, rfl, by decide +kernel, by decide +kernel⟩
noncomputable def b__law_make (Γ : Gam) : Fs := (sSeq (sSeqF 1 (sSetN 1 (nLc (iSeq (eCall 1 (Γ.f 13) [] (aCons (eVar 0) aNil))) [2] (bName 2) tYesM (eCall 1 (Γ.f 17) [] (aCons (eVar 2) aNil)))))
    (sSeq (sIf (tBl (op2 eqW (op2 ixW (rVar 0) (eC (.int 0))) (eC (.str "do")))) (sRet (eNew "Do" 2 (Γ.i 0) [] (aCons (op2 ixW (rVar 0) (eC (.int 1))) aNil))) sNil)
    (sSeq (sIf (tBl (op2 eqW (op2 ixW (rVar 0) (eC (.int 0))) (eC (.str "ask")))) (sRet (eNew "Ask" 2 (Γ.i 1) [] (aCons (op2 ixW (rVar 0) (eC (.int 1))) aNil))) sNil)
    (sSeq (sIf (tBl (op2 eqW (op2 ixW (rVar 0) (eC (.int 0))) (eC (.str "row")))) (sRet (eNew "Row" 3 (Γ.i 2) [] (aCons (eVar 1) (aCons (op2 ixW (rVar 0) (eC (.int 1))) aNil)))) sNil)
    (sSeq (sIf (tBl (op2 eqW (op2 ixW (rVar 0) (eC (.int 0))) (eC (.str "first")))) (sRet (eNew "First" 3 (Γ.i 3) [] (aCons (eBlt tupleW (aCons (rVar 1) aNil)) (aCons (op2 ixW (rVar 0) (eC (.int 1))) aNil)))) sNil)
    (sSeq (sIf (tBl (op2 eqW (op2 ixW (rVar 0) (eC (.int 0))) (eC (.str "beside")))) (sRet (eNew "Beside" 3 (Γ.i 4) [] (aCons (eVar 1) (aCons (op2 ixW (rVar 0) (eC (.int 1))) aNil)))) sNil)
    (sSeq (sIf (tBl (op2 eqW (op2 ixW (rVar 0) (eC (.int 0))) (eC (.str "again")))) (sRet (eNew "Again" 3 (Γ.i 5) [] (aCons (op2 ixW (rVar 1) (eC (.int 0))) (aCons (op2 ixW (rVar 0) (eC (.int 1))) aNil)))) sNil)
    (sSeq (sIf (tBl (op2 eqW (op2 ixW (rVar 0) (eC (.int 0))) (eC (.str "while")))) (sRet (eNew "While" 3 (Γ.i 6) [] (aCons (op2 ixW (rVar 0) (eC (.int 1))) (aCons (op2 ixW (rVar 1) (eC (.int 0))) aNil)))) sNil)
    (sSeq (sIf (tBl (op2 eqW (op2 ixW (rVar 0) (eC (.int 0))) (eC (.str "if")))) (sRet (eNew "If" 3 (Γ.i 7) [] (aCons (op2 ixW (rVar 0) (eC (.int 1))) (aCons (op2 ixW (rVar 1) (eC (.int 0))) aNil)))) sNil)
    (sRet (eIf (tBl (op2 eqW (op2 ixW (rVar 0) (eC (.int 0))) (eC (.str "not")))) (eNew "Not" 2 (Γ.i 8) [] (aCons (op2 ixW (rVar 1) (eC (.int 0))) aNil)) (eNew "Always" 3 (Γ.i 9) [] (aCons (op2 ixW (rVar 0) (eC (.int 1))) (aCons (op2 ixW (rVar 1) (eC (.int 0))) aNil))))))))))))))
theorem d__law_make {P : Program} {w : World} {K : PySem.W.Frag} {mg : Str → Option Value} {base : Heap} {cl : Str → Addr} {k : Nat} {Γ : Gam} {qual : Str} {f : Addr} {cdv : Value} {A : Around} {outer : List Env} {s : Shared} {H : Hp} {E : XK} {B : Bs} (hF : Fx K mg cl Tx) (hX : Ox K cl Tt) (hI : GetT K cl Tt) (hH : Hy P w K mg base cl (4 * k) Tx Γ)
    (h : Ctx (cxOf (CX P w) P w K mg base N__law_make qual (defScope st__law_make) f cdv A outer s H E) (fun cls d _ H => E cls d H) (4 * k + 3)) : SXs ⟨K, cl⟩ (cxOf (CX P w) P w K mg base N__law_make qual (defScope st__law_make) f cdv A outer s H E) (fun cls d _ H => E cls d H) B (defBody st__law_make) (b__law_make Γ) :=
  (x_cons (x_seqF (x_setLc (i := 1) h rfl rfl (sw_true rfl rfl rfl (by decide +kernel)) (own := [("_law_part", 2)]) (i_seq (s_call (hH.fnAt 14) (h.hr.mono (by omega)) h.tk (a_cons (s_var 0) a_nil))) (blkOk_by (N := N__law_make) (sc := defScope st__law_make) (by decide +kernel)) (by decide) (fun _ _ _ _ _ => (g_name h.nd rfl (by first | exact Or.inl rfl | exact Or.inr rfl))) (fun _ _ _ _ _ => ts_nil) (fun _ _ _ _ _ => (s_call (hH.fnAt 18) (h.hr.mono (by omega)) takes0 (a_cons (s_var 2) a_nil)))))
    (x_cons (x_if (t_of_cmp (o_eq h.hr) (SE.rd (s_ix i_x (s_rvar 0) (SE.rd s_int))) (SE.rd s_str)) (x_one (x_ret (s_new (hH.iniAt 0) (h.hr.mono (by omega)) h.tk (a_cons (s_ix i_x (s_rvar 0) (SE.rd s_int)) a_nil)))) x_nil)
    (x_cons (x_if (t_of_cmp (o_eq h.hr) (SE.rd (s_ix i_x (s_rvar 0) (SE.rd s_int))) (SE.rd s_str)) (x_one (x_ret (s_new (hH.iniAt 1) (h.hr.mono (by omega)) h.tk (a_cons (s_ix i_x (s_rvar 0) (SE.rd s_int)) a_nil)))) x_nil)
    (x_cons (x_if (t_of_cmp (o_eq h.hr) (SE.rd (s_ix i_x (s_rvar 0) (SE.rd s_int))) (SE.rd s_str)) (x_one (x_ret (s_new (hH.iniAt 2) (h.hr.mono (by omega)) h.tk (a_cons (s_var 1) (a_cons (s_ix i_x (s_rvar 0) (SE.rd s_int)) a_nil))))) x_nil)
    (x_cons (x_if (t_of_cmp (o_eq h.hr) (SE.rd (s_ix i_x (s_rvar 0) (SE.rd s_int))) (SE.rd s_str)) (x_one (x_ret (s_new (hH.iniAt 4) (h.hr.mono (by omega)) h.tk (a_cons (s_tuple' (s_rvar 1) (hF.nog.at 3)) (a_cons (s_ix i_x (s_rvar 0) (SE.rd s_int)) a_nil))))) x_nil)
    (x_cons (x_if (t_of_cmp (o_eq h.hr) (SE.rd (s_ix i_x (s_rvar 0) (SE.rd s_int))) (SE.rd s_str)) (x_one (x_ret (s_new (hH.iniAt 6) (h.hr.mono (by omega)) h.tk (a_cons (s_var 1) (a_cons (s_ix i_x (s_rvar 0) (SE.rd s_int)) a_nil))))) x_nil)
    (x_cons (x_if (t_of_cmp (o_eq h.hr) (SE.rd (s_ix i_x (s_rvar 0) (SE.rd s_int))) (SE.rd s_str)) (x_one (x_ret (s_new (hH.iniAt 7) (h.hr.mono (by omega)) h.tk (a_cons (s_ix i_x (s_rvar 1) (SE.rd s_int)) (a_cons (s_ix i_x (s_rvar 0) (SE.rd s_int)) a_nil))))) x_nil)
    (x_cons (x_if (t_of_cmp (o_eq h.hr) (SE.rd (s_ix i_x (s_rvar 0) (SE.rd s_int))) (SE.rd s_str)) (x_one (x_ret (s_new (hH.iniAt 8) (h.hr.mono (by omega)) h.tk (a_cons (s_ix i_x (s_rvar 0) (SE.rd s_int)) (a_cons (s_ix i_x (s_rvar 1) (SE.rd s_int)) a_nil))))) x_nil)
    (x_cons (x_if (t_of_cmp (o_eq h.hr) (SE.rd (s_ix i_x (s_rvar 0) (SE.rd s_int))) (SE.rd s_str)) (x_one (x_ret (s_new (hH.iniAt 9) (h.hr.mono (by omega)) h.tk (a_cons (s_ix i_x (s_rvar 0) (SE.rd s_int)) (a_cons (s_ix i_x (s_rvar 1) (SE.rd s_int)) a_nil))))) x_nil)
    (x_one (x_ret (s_if (t_of_cmp (o_eq h.hr) (SE.rd (s_ix i_x (s_rvar 0) (SE.rd s_int))) (SE.rd s_str)) (s_new (hH.iniAt 10) (h.hr.mono (by omega)) h.tk (a_cons (s_ix i_x (s_rvar 1) (SE.rd s_int)) a_nil)) (s_new (hH.iniAt 11) (h.hr.mono (by omega)) h.tk (a_cons (s_ix i_x (s_rvar 0) (SE.rd s_int)) (a_cons (s_ix i_x (s_rvar 1) (SE.rd s_int)) a_nil)))))))))))))))

abbrev st__law_ends : Stmt := (top 58)
abbrev N__law_ends : List Str := ["_law_told", "_law_found", "_law_at", "_law_node"]
theorem sc__law_ends : FnScope N__law_ends ["_law_told"] (defScope st__law_ends) := ⟨rfl, rfl, rfl, by decide +kernel, rfl, by decide +kernel, by decide +kernel⟩
noncomputable def b__law_ends (Γ : Gam) : Fs := (sSeq (sSetN 1 (nLst aNil))
    (sSeq (sFor (iEn (aCons (eCall 1 (Γ.f 16) [] (aCons (eVar 0) aNil)) aNil)) (bTup [(bName 2), (bName 3)]) (sApp 1 (op2 addW (rVar 2) (eBlt lenW (aCons (eCall 1 (Γ.f 16) [] (aCons (eVar 3) aNil)) aNil)))))
    (sFrz 1 (sRet (eVar 1)))))
theorem d__law_ends {P : Program} {w : World} {K : PySem.W.Frag} {mg : Str → Option Value} {base : Heap} {cl : Str → Addr} {k : Nat} {Γ : Gam} {qual : Str} {f : Addr} {cdv : Value} {A : Around} {outer : List Env} {s : Shared} {H : Hp} {E : XK} {B : Bs} (hF : Fx K mg cl Tx) (hX : Ox K cl Tt) (hI : GetT K cl Tt) (hH : Hy P w K mg base cl (4 * k) Tx Γ)
    (h : Ctx (cxOf (CX P w) P w K mg base N__law_ends qual (defScope st__law_ends) f cdv A outer s H E) (fun cls d _ H => E cls d H) (4 * k + 3)) : SXs ⟨K, cl⟩ (cxOf (CX P w) P w K mg base N__law_ends qual (defScope st__law_ends) f cdv A outer s H E) (fun cls d _ H => E cls d H) B (defBody st__law_ends) (b__law_ends Γ) :=
  (x_cons (x_setN (i := 1) h.nd rfl (by first | exact Or.inl rfl | exact Or.inr rfl) (n_lst a_nil))
    (x_cons (x_for h (i_enum (a_cons (s_call (hH.fnAt 17) (h.hr.mono (by omega)) h.tk (a_cons (s_var 0) a_nil)) a_nil) (hF.nog.at 16)) (g_tup h.calm (gs_cons (g_name h.nd rfl (by first | exact Or.inl rfl | exact Or.inr rfl)) (gs_cons (g_name h.nd rfl (by first | exact Or.inl rfl | exact Or.inr rfl)) gs_nil))) (fun _ => (x_one (x_append (i := 1) (s_bin o_add (s_rvar 2) (SE.rd (s_len (SE.rd (s_call (hH.fnAt 17) (h.hr.mono (by omega)) h.tk (a_cons (s_var 3) a_nil))) (hF.nog.at 0))))))))
    (x_one (x_frz (x_ret (s_var 1))))))

abbrev st_law : Stmt := (top 59)
abbrev N_law : List Str := ["_law_script_here", "_law_deal_here", "_law_turn", "_law_told", "_law_more", "_law_sizes", "_law_made", "_law_ends_here", "_law_one", "_law_other", "_law_at", "_law_put", "_law_shift", "_law_later", "_law_both", "_law_place", "_law_size", "_law_k", "_law_end"]
theorem sc_law : FnScope N_law ["_law_script_here"] (defScope st_law) := ⟨rfl, rfl, rfl, by decide +kernel, rfl, by decide +kernel, by decide +kernel⟩
noncomputable def b_law (Γ : Gam) : Fs := (sSeq (sSet 1 (eCall 2 (Γ.f 7) [] (aCons (eVar 0) (aCons (eC (.int 0)) aNil))))
    (sSeq (sFor (iRng rng1 (aCons (eC (.int 3)) aNil)) (bName 2) (sSeq (sSet 3 (eCall 3 (Γ.f 12) [] (aCons (eVar 1) (aCons (ePush (nLst (aCons (eC (.int 28)) aNil))) (aCons (eCall 2 (Γ.f 9) [] (aCons (eVar 1) (aCons (eL (nLst (aCons (eC (.int 3)) (aCons (eC (.int 5)) (aCons (eC (.int 9)) aNil))))) aNil))) aNil)))))
    (sSeq (sUnp (bTup [(bName 6), (bName 7)]) (eTup (aCons (eCall 1 (Γ.f 17) [] (aCons (eVar 3) aNil)) (aCons (eCall 1 (Γ.f 18) [] (aCons (eVar 3) aNil)) aNil))))
    (sSeq (sUnp (bTup [(bName 8), (bName 9)]) (eL (nLc (iRng rng1 (aCons (eC (.int 2)) aNil)) [4] (bName 4) tYesM (eCall 1 (Γ.f 17) [] (aCons (eCall 3 (Γ.f 12) [] (aCons (eVar 1) (aCons (ePush (nLst (aCons (eC (.int 4)) aNil))) (aCons (eC (.int 2)) aNil)))) aNil)))))
    (sSeq (sFor (iRng rng1 (aCons (eC (.int 5)) aNil)) (bName 4) (sSeq (sSet 10 (eCall 2 (Γ.f 8) [] (aCons (eVar 1) (aCons (eBlt lenW (aCons (rVar 7) aNil)) aNil))))
    (sSeq (sSet 11 (eMeth "put" Tt 3 [] (Γ.m 9) (eVar 6) (aCons (eVar 10) (aCons (eVar 8) aNil))))
    (sSeq (sIf (tOrr (tBl (e2M (notM Tt (Γ.m 5)) (e2M (itemM Tt (Γ.m 8)) (eVar 11) (eVar 10)) (eVar 8))) (tBl (op2 neW (e1M (lenM Tt (Γ.m 7)) (eVar 11)) (op2 addW (op2 subW (e1M (lenM Tt (Γ.m 7)) (eVar 6)) (e1M (lenM Tt (Γ.m 7)) (e2M (itemM Tt (Γ.m 8)) (eVar 6) (eVar 10)))) (e1M (lenM Tt (Γ.m 7)) (eVar 8)))))) (sRet (eC (.bl false))) sNil)
    (sSeq (sIf (tBl (e2M (notM Tt (Γ.m 5)) (eMeth "put" Tt 3 [] (Γ.m 9) (eVar 11) (aCons (eVar 10) (aCons (e2M (itemM Tt (Γ.m 8)) (eVar 6) (eVar 10)) aNil))) (eVar 6))) (sRet (eC (.bl false))) sNil)
    (sSeq (sSet 12 (op2 subW (e1M (lenM Tt (Γ.m 7)) (eVar 8)) (e1M (lenM Tt (Γ.m 7)) (e2M (itemM Tt (Γ.m 8)) (eVar 6) (eVar 10)))))
    (sSeq (sIf (tBl (op2 neW (eL (nLc (iRng rng2 (aCons (op2 ixW (rVar 7) (rVar 10)) (aCons (e1M (lenM Tt (Γ.m 7)) (eVar 6)) aNil))) [17] (bName 17) (tBl (e2M (notM Tt (Γ.m 5)) (e2M (itemM Tt (Γ.m 8)) (eVar 11) (op2 addW (rVar 17) (rVar 12))) (e2M (itemM Tt (Γ.m 8)) (eVar 6) (eVar 17)))) (eVar 17))) (eL (nLst aNil)))) (sRet (eC (.bl false))) sNil)
    (sSeq (sIf (tBl (op2 neW (eL (nLc (iRng rng1 (aCons (eVar 10) aNil)) [17] (bName 17) (tAn (tBl (op2 (cmpI fun i j => decide (i ≤ j)) (op2 ixW (rVar 7) (rVar 17)) (rVar 10))) (tBl (e2M (notM Tt (Γ.m 5)) (e2M (itemM Tt (Γ.m 8)) (eVar 11) (eVar 17)) (e2M (itemM Tt (Γ.m 8)) (eVar 6) (eVar 17))))) (eVar 17))) (eL (nLst aNil)))) (sRet (eC (.bl false))) sNil)
    (sSeq (sSet 13 (op2 addW (op2 ixW (rVar 7) (rVar 10)) (eCall 2 (Γ.f 8) [] (aCons (eVar 1) (aCons (op2 addW (op2 subW (e1M (lenM Tt (Γ.m 7)) (eVar 6)) (op2 ixW (rVar 7) (rVar 10))) (eC (.int 1))) aNil)))))
    (sIf (tBl (op2 (cmpI fun i j => decide (i < j)) (rVar 13) (e1M (lenM Tt (Γ.m 7)) (eVar 6)))) (sSeq (sSet 14 (eMeth "put" Tt 3 [] (Γ.m 9) (eMeth "put" Tt 3 [] (Γ.m 9) (eVar 6) (aCons (eVar 13) (aCons (eVar 9) aNil))) (aCons (eVar 10) (aCons (eVar 8) aNil))))
    (sSeq (sSet 15 (op2 addW (rVar 13) (rVar 12)))
    (sSeq (sIf (tBl (e2M (notM Tt (Γ.m 5)) (eMeth "put" Tt 3 [] (Γ.m 9) (eVar 11) (aCons (eVar 15) (aCons (eVar 9) aNil))) (eVar 14))) (sRet (eC (.bl false))) sNil)
    (sSeq (sSet 16 (op2 addW (op2 subW (e1M (lenM Tt (Γ.m 7)) (eVar 11)) (e1M (lenM Tt (Γ.m 7)) (e2M (itemM Tt (Γ.m 8)) (eVar 6) (eVar 13)))) (e1M (lenM Tt (Γ.m 7)) (eVar 9))))
    (sIf (tBl (op2 neW (e1M (lenM Tt (Γ.m 7)) (eVar 14)) (rVar 16))) (sRet (eC (.bl false))) sNil))))) sNil))))))))))
    (sSeq (sSeqF 5 (sSetN 5 (nLc (iRng rng1 (aCons (e1M (lenM Tt (Γ.m 7)) (eVar 6)) aNil)) [17] (bName 17) tYesM (e1M (lenM Tt (Γ.m 7)) (e2M (itemM Tt (Γ.m 8)) (eVar 6) (eVar 17))))))
    (sIf (tOrr (tBl (e2M (notM Tt (Γ.m 5)) (eMeth "put" Tt 3 [] (Γ.m 9) (eVar 6) (aCons (eC (.int 0)) (aCons (eVar 8) aNil))) (eVar 8))) (tBl (op2 neW (rVar 5) (eL (nLc (iEn (aCons (eVar 7) aNil)) [17, 18] (bTup [(bName 17), (bName 18)]) tYesM (op2 subW (rVar 18) (rVar 17))))))) (sRet (eC (.bl false))) sNil)))))))
    (sRet (eC (.bl true)))))
theorem d_law {P : Program} {w : World} {K : PySem.W.Frag} {mg : Str → Option Value} {base : Heap} {cl : Str → Addr} {k : Nat} {Γ : Gam} {qual : Str} {f : Addr} {cdv : Value} {A : Around} {outer : List Env} {s : Shared} {H : Hp} {E : XK} {B : Bs} (hF : Fx K mg cl Tx) (hX : Ox K cl Tt) (hI : GetT K cl Tt) (hH : Hy P w K mg base cl (4 * k) Tx Γ)
    (h : Ctx (cxOf (CX P w) P w K mg base N_law qual (defScope st_law) f cdv A outer s H E) (fun cls d _ H => E cls d H) (4 * k + 3)) : SXs ⟨K, cl⟩ (cxOf (CX P w) P w K mg base N_law qual (defScope st_law) f cdv A outer s H E) (fun cls d _ H => E cls d H) B (defBody st_law) (b_law Γ) :=
  (x_cons (x_set (i := 1) h.nd rfl (by first | exact Or.inl rfl | exact Or.inr rfl) (s_call (hH.fnAt 8) (h.hr.mono (by omega)) h.tk (a_cons (s_var 0) (a_cons s_int a_nil))))
    (x_cons (x_for h (i_range1 (a_cons s_int a_nil) (hF.nog.at 6)) (g_name h.nd rfl (by first | exact Or.inl rfl | exact Or.inr rfl)) (fun _ => (x_cons (x_set (i := 3) h.nd rfl (by first | exact Or.inl rfl | exact Or.inr rfl) (s_call (hH.fnAt 13) (h.hr.mono (by omega)) h.tk (a_cons (s_var 1) (a_cons (SN.push (n_lst (a_cons s_int a_nil))) (a_cons (s_call (hH.fnAt 10) (h.hr.mono (by omega)) h.tk (a_cons (s_var 1) (a_cons (SN.se (n_lst (a_cons s_int (a_cons s_int (a_cons s_int a_nil))))) a_nil))) a_nil)))))
    (x_cons (x_unp (s_tup (a_cons (s_call (hH.fnAt 18) (h.hr.mono (by omega)) h.tk (a_cons (s_var 3) a_nil)) (a_cons (s_call (hH.fnAt 19) (h.hr.mono (by omega)) h.tk (a_cons (s_var 3) a_nil)) a_nil))) (g_tup h.calm (gs_cons (g_name h.nd rfl (by first | exact Or.inl rfl | exact Or.inr rfl)) (gs_cons (g_name h.nd rfl (by first | exact Or.inl rfl | exact Or.inr rfl)) gs_nil))))
    (x_cons (x_unp (SN.se (n_lc h (own := [("_law_more", 4)]) (i_range1 (a_cons s_int a_nil) (hF.nog.at 6)) (blkOk_by (N := N_law) (sc := defScope st_law) (by decide +kernel)) (by decide) (fun _ _ _ _ _ => (g_name h.nd rfl (by first | exact Or.inl rfl | exact Or.inr rfl))) (fun _ _ _ _ _ => ts_nil) (fun _ _ _ _ _ => (s_call (hH.fnAt 18) (h.hr.mono (by omega)) takes0 (a_cons (s_call (hH.fnAt 13) (h.hr.mono (by omega)) takes0 (a_cons (s_var 1) (a_cons (SN.push (n_lst (a_cons s_int a_nil))) (a_cons s_int a_nil)))) a_nil))))) (g_tup h.calm (gs_cons (g_name h.nd rfl (by first | exact Or.inl rfl | exact Or.inr rfl)) (gs_cons (g_name h.nd rfl (by first | exact Or.inl rfl | exact Or.inr rfl)) gs_nil))))
    (x_cons (x_for h (i_range1 (a_cons s_int a_nil) (hF.nog.at 6)) (g_name h.nd rfl (by first | exact Or.inl rfl | exact Or.inr rfl)) (fun _ => (x_cons (x_set (i := 10) h.nd rfl (by first | exact Or.inl rfl | exact Or.inr rfl) (s_call (hH.fnAt 9) (h.hr.mono (by omega)) h.tk (a_cons (s_var 1) (a_cons (s_len (s_rvar 7) (hF.nog.at 0)) a_nil))))
    (x_cons (x_set (i := 11) h.nd rfl (by first | exact Or.inl rfl | exact Or.inr rfl) (s_meth hX.cls (hH.metsOf (by decide +kernel)) (h.hr.mono (by omega)) h.tk (s_var 6) (a_cons (s_var 10) (a_cons (s_var 8) a_nil))))
    (x_cons (x_if (PW.pt (t_or (t_cmpM (m_neO hX.eq (hH.metsOf (by decide +kernel)) (h.hr.mono (by omega)) h.tk) (s_ixO hI (hH.metsOf (by decide +kernel)) (h.hr.mono (by omega)) h.tk (s_var 11) (s_var 10)) (s_var 8)) (t_or1 (t_of_cmp (o_ne h.hr) (SE.rd (s_lenO (hH.metsOf (by decide +kernel)) (h.hr.mono (by omega)) h.tk (s_var 11) (hF.nog.at 0))) (SE.rd (s_bin o_add (SE.rd (s_bin o_sub (SE.rd (s_lenO (hH.metsOf (by decide +kernel)) (h.hr.mono (by omega)) h.tk (s_var 6) (hF.nog.at 0))) (SE.rd (s_lenO (hH.metsOf (by decide +kernel)) (h.hr.mono (by omega)) h.tk (s_ixO hI (hH.metsOf (by decide +kernel)) (h.hr.mono (by omega)) h.tk (s_var 6) (s_var 10)) (hF.nog.at 0))))) (SE.rd (s_lenO (hH.metsOf (by decide +kernel)) (h.hr.mono (by omega)) h.tk (s_var 8) (hF.nog.at 0))))))))) (x_one (x_ret s_bl)) x_nil)
    (x_cons (x_if (t_cmpM (m_neO hX.eq (hH.metsOf (by decide +kernel)) (h.hr.mono (by omega)) h.tk) (s_meth hX.cls (hH.metsOf (by decide +kernel)) (h.hr.mono (by omega)) h.tk (s_var 11) (a_cons (s_var 10) (a_cons (s_ixO hI (hH.metsOf (by decide +kernel)) (h.hr.mono (by omega)) h.tk (s_var 6) (s_var 10)) a_nil))) (s_var 6)) (x_one (x_ret s_bl)) x_nil)
    (x_cons (x_set (i := 12) h.nd rfl (by first | exact Or.inl rfl | exact Or.inr rfl) (s_bin o_sub (SE.rd (s_lenO (hH.metsOf (by decide +kernel)) (h.hr.mono (by omega)) h.tk (s_var 8) (hF.nog.at 0))) (SE.rd (s_lenO (hH.metsOf (by decide +kernel)) (h.hr.mono (by omega)) h.tk (s_ixO hI (hH.metsOf (by decide +kernel)) (h.hr.mono (by omega)) h.tk (s_var 6) (s_var 10)) (hF.nog.at 0)))))
    (x_cons (x_if (t_of_cmp (o_ne h.hr) (SE.rd (SN.se (n_lc h (own := [("_law_k", 17)]) (i_range2 (a_cons (s_ix i_x (s_rvar 7) (s_rvar 10)) (a_cons (s_lenO (hH.metsOf (by decide +kernel)) (h.hr.mono (by omega)) h.tk (s_var 6) (hF.nog.at 0)) a_nil)) (hF.nog.at 6)) (blkOk_by (N := N_law) (sc := defScope st_law) (by decide +kernel)) (by decide) (fun _ _ _ _ _ => (g_name h.nd rfl (by first | exact Or.inl rfl | exact Or.inr rfl))) (fun _ _ _ _ _ => (ts_one (t_cmpM (m_neO hX.eq (hH.metsOf (by decide +kernel)) (h.hr.mono (by omega)) takes0) (s_ixO hI (hH.metsOf (by decide +kernel)) (h.hr.mono (by omega)) takes0 (s_var 11) (s_bin o_add (s_rvar 17) (s_rvar 12))) (s_ixO hI (hH.metsOf (by decide +kernel)) (h.hr.mono (by omega)) takes0 (s_var 6) (s_var 17))))) (fun _ _ _ _ _ => (s_var 17))))) (SE.rd (SN.se (n_lst a_nil)))) (x_one (x_ret s_bl)) x_nil)
    (x_cons (x_if (t_of_cmp (o_ne h.hr) (SE.rd (SN.se (n_lc h (own := [("_law_k", 17)]) (i_range1 (a_cons (s_var 10) a_nil) (hF.nog.at 6)) (blkOk_by (N := N_law) (sc := defScope st_law) (by decide +kernel)) (by decide) (fun _ _ _ _ _ => (g_name h.nd rfl (by first | exact Or.inl rfl | exact Or.inr rfl))) (fun _ _ _ _ _ => (ts_one (PW.pt (t_and (t_of_cmp o_le (SE.rd (s_ix i_x (s_rvar 7) (s_rvar 17))) (s_rvar 10)) (t_and1 (t_cmpM (m_neO hX.eq (hH.metsOf (by decide +kernel)) (h.hr.mono (by omega)) takes0) (s_ixO hI (hH.metsOf (by decide +kernel)) (h.hr.mono (by omega)) takes0 (s_var 11) (s_var 17)) (s_ixO hI (hH.metsOf (by decide +kernel)) (h.hr.mono (by omega)) takes0 (s_var 6) (s_var 17)))))))) (fun _ _ _ _ _ => (s_var 17))))) (SE.rd (SN.se (n_lst a_nil)))) (x_one (x_ret s_bl)) x_nil)
    (x_cons (x_set (i := 13) h.nd rfl (by first | exact Or.inl rfl | exact Or.inr rfl) (s_bin o_add (SE.rd (s_ix i_x (s_rvar 7) (s_rvar 10))) (SE.rd (s_call (hH.fnAt 9) (h.hr.mono (by omega)) h.tk (a_cons (s_var 1) (a_cons (s_bin o_add (SE.rd (s_bin o_sub (SE.rd (s_lenO (hH.metsOf (by decide +kernel)) (h.hr.mono (by omega)) h.tk (s_var 6) (hF.nog.at 0))) (SE.rd (s_ix i_x (s_rvar 7) (s_rvar 10))))) (SE.rd s_int)) a_nil))))))
    (x_one (x_if (t_of_cmp o_lt (s_rvar 13) (SE.rd (s_lenO (hH.metsOf (by decide +kernel)) (h.hr.mono (by omega)) h.tk (s_var 6) (hF.nog.at 0)))) (x_cons (x_set (i := 14) h.nd rfl (by first | exact Or.inl rfl | exact Or.inr rfl) (s_meth hX.cls (hH.metsOf (by decide +kernel)) (h.hr.mono (by omega)) h.tk (s_meth hX.cls (hH.metsOf (by decide +kernel)) (h.hr.mono (by omega)) h.tk (s_var 6) (a_cons (s_var 13) (a_cons (s_var 9) a_nil))) (a_cons (s_var 10) (a_cons (s_var 8) a_nil))))
    (x_cons (x_set (i := 15) h.nd rfl (by first | exact Or.inl rfl | exact Or.inr rfl) (s_bin o_add (s_rvar 13) (s_rvar 12)))
    (x_cons (x_if (t_cmpM (m_neO hX.eq (hH.metsOf (by decide +kernel)) (h.hr.mono (by omega)) h.tk) (s_meth hX.cls (hH.metsOf (by decide +kernel)) (h.hr.mono (by omega)) h.tk (s_var 11) (a_cons (s_var 15) (a_cons (s_var 9) a_nil))) (s_var 14)) (x_one (x_ret s_bl)) x_nil)
    (x_cons (x_set (i := 16) h.nd rfl (by first | exact Or.inl rfl | exact Or.inr rfl) (s_bin o_add (SE.rd (s_bin o_sub (SE.rd (s_lenO (hH.metsOf (by decide +kernel)) (h.hr.mono (by omega)) h.tk (s_var 11) (hF.nog.at 0))) (SE.rd (s_lenO (hH.metsOf (by decide +kernel)) (h.hr.mono (by omega)) h.tk (s_ixO hI (hH.metsOf (by decide +kernel)) (h.hr.mono (by omega)) h.tk (s_var 6) (s_var 13)) (hF.nog.at 0))))) (SE.rd (s_lenO (hH.metsOf (by decide +kernel)) (h.hr.mono (by omega)) h.tk (s_var 9) (hF.nog.at 0)))))
    (x_one (x_if (t_of_cmp (o_ne h.hr) (SE.rd (s_lenO (hH.metsOf (by decide +kernel)) (h.hr.mono (by omega)) h.tk (s_var 14) (hF.nog.at 0))) (s_rvar 16)) (x_one (x_ret s_bl)) x_nil)))))) x_nil))))))))))))
    (x_cons (x_seqF (x_setLc (i := 5) h rfl rfl (sw_true rfl rfl rfl (by decide +kernel)) (own := [("_law_k", 17)]) (i_range1 (a_cons (s_lenO (hH.metsOf (by decide +kernel)) (h.hr.mono (by omega)) h.tk (s_var 6) (hF.nog.at 0)) a_nil) (hF.nog.at 6)) (blkOk_by (N := N_law) (sc := defScope st_law) (by decide +kernel)) (by decide) (fun _ _ _ _ _ => (g_name h.nd rfl (by first | exact Or.inl rfl | exact Or.inr rfl))) (fun _ _ _ _ _ => ts_nil) (fun _ _ _ _ _ => (s_lenO (hH.metsOf (by decide +kernel)) (h.hr.mono (by omega)) takes0 (s_ixO hI (hH.metsOf (by decide +kernel)) (h.hr.mono (by omega)) takes0 (s_var 6) (s_var 17)) (hF.nog.at 0)))))
    (x_one (x_if (PW.pt (t_or (t_cmpM (m_neO hX.eq (hH.metsOf (by decide +kernel)) (h.hr.mono (by omega)) h.tk) (s_meth hX.cls (hH.metsOf (by decide +kernel)) (h.hr.mono (by omega)) h.tk (s_var 6) (a_cons s_int (a_cons (s_var 8) a_nil))) (s_var 8)) (t_or1 (t_of_cmp (o_ne h.hr) (s_rvar 5) (SE.rd (SN.se (n_lc h (own := [("_law_k", 17), ("_law_end", 18)]) (i_enum (a_cons (s_var 7) a_nil) (hF.nog.at 16)) (blkOk_by (N := N_law) (sc := defScope st_law) (by decide +kernel)) (by decide) (fun _ _ _ _ _ => (g_tup h.calm (gs_cons (g_name h.nd rfl (by first | exact Or.inl rfl | exact Or.inr rfl)) (gs_cons (g_name h.nd rfl (by first | exact Or.inl rfl | exact Or.inr rfl)) gs_nil)))) (fun _ _ _ _ _ => ts_nil) (fun _ _ _ _ _ => (s_bin o_sub (s_rvar 18) (s_rvar 17)))))))))) (x_one (x_ret s_bl)) x_nil)))))))))
    (x_one (x_ret s_bl))))

abbrev st_Tree___add__ : Stmt := (inClass (top 35) 6)
abbrev N_Tree___add__ : List Str := ["self", "other"]
theorem sc_Tree___add__ : FnScope N_Tree___add__ ["self", "other"] (defScope st_Tree___add__) := ⟨rfl, rfl, rfl, by decide +kernel, rfl, by decide +kernel, by decide +kernel⟩
noncomputable def b_Tree___add__ (Γ : Gam) : Fs := (sSeq (sIf (tNt (tTru (eBlt (isiW Tx.tc Tx.kt) (aCons (rVar 1) (aCons (eC (.cls "Tree")) aNil))))) (fun _ _ => .bad) sNil)
    (sRet (eNew "Row" 3 (Γ.i 2) [.bl false] (aCons (eL (nLst (aCons (eVar 0) (aCons (eVar 1) aNil)))) aNil))))
theorem d_Tree___add__ {P : Program} {w : World} {K : PySem.W.Frag} {mg : Str → Option Value} {base : Heap} {cl : Str → Addr} {k : Nat} {Γ : Gam} {qual : Str} {f : Addr} {cdv : Value} {A : Around} {outer : List Env} {s : Shared} {H : Hp} {E : XK} {B : Bs} (hF : Fx K mg cl Tx) (hX : Ox K cl Tt) (hI : GetT K cl Tt) (hH : Hy P w K mg base cl (4 * k) Tx Γ)
    (h : Ctx (cxOf (CX P w) P w K mg base N_Tree___add__ qual (defScope st_Tree___add__) f cdv A outer s H E) (fun cls d _ H => E cls d H) (4 * k + 3)) : SXs ⟨K, cl⟩ (cxOf (CX P w) P w K mg base N_Tree___add__ qual (defScope st_Tree___add__) f cdv A outer s H E) (fun cls d _ H => E cls d H) B (defBody st_Tree___add__) (b_Tree___add__ Γ) :=
  (x_cons (x_if (t_not (t_truth (SE.rd (s_isi hF 12 (s_rvar 1) (SE.rd (s_cl hF 10)))))) (x_one x_bad) x_nil)
    (x_one (x_ret (s_new (hH.iniAt 3) (h.hr.mono (by omega)) h.tk (a_cons (SN.se (n_lst (a_cons (s_var 0) (a_cons (s_var 1) a_nil)))) a_nil)))))

abbrev st_Tree___or__ : Stmt := (inClass (top 35) 7)
abbrev N_Tree___or__ : List Str := ["self", "other"]
theorem sc_Tree___or__ : FnScope N_Tree___or__ ["self", "other"] (defScope st_Tree___or__) := ⟨rfl, rfl, rfl, by decide +kernel, rfl, by decide +kernel, by decide +kernel⟩
noncomputable def b_Tree___or__ (Γ : Gam) : Fs := (sSeq (sIf (tNt (tTru (eBlt (isiW Tx.tc Tx.kt) (aCons (rVar 1) (aCons (eC (.cls "Tree")) aNil))))) (fun _ _ => .bad) sNil)
    (sRet (eNew "First" 3 (Γ.i 3) [.bl false] (aCons (eL (nLst (aCons (eVar 0) (aCons (eVar 1) aNil)))) aNil))))
theorem d_Tree___or__ {P : Program} {w : World} {K : PySem.W.Frag} {mg : Str → Option Value} {base : Heap} {cl : Str → Addr} {k : Nat} {Γ : Gam} {qual : Str} {f : Addr} {cdv : Value} {A : Around} {outer : List Env} {s : Shared} {H : Hp} {E : XK} {B : Bs} (hF : Fx K mg cl Tx) (hX : Ox K cl Tt) (hI : GetT K cl Tt) (hH : Hy P w K mg base cl (4 * k) Tx Γ)
    (h : Ctx (cxOf (CX P w) P w K mg base N_Tree___or__ qual (defScope st_Tree___or__) f cdv A outer s H E) (fun cls d _ H => E cls d H) (4 * k + 3)) : SXs ⟨K, cl⟩ (cxOf (CX P w) P w K mg base N_Tree___or__ qual (defScope st_Tree___or__) f cdv A outer s H E) (fun cls d _ H => E cls d H) B (defBody st_Tree___or__) (b_Tree___or__ Γ) :=
  (x_cons (x_if (t_not (t_truth (SE.rd (s_isi hF 12 (s_rvar 1) (SE.rd (s_cl hF 10)))))) (x_one x_bad) x_nil)
    (x_one (x_ret (s_new (hH.iniAt 5) (h.hr.mono (by omega)) h.tk (a_cons (SN.se (n_lst (a_cons (s_var 0) (a_cons (s_var 1) a_nil)))) a_nil)))))

abbrev st_Tree___and__ : Stmt := (inClass (top 35) 8)
abbrev N_Tree___and__ : List Str := ["self", "other"]
theorem sc_Tree___and__ : FnScope N_Tree___and__ ["self", "other"] (defScope st_Tree___and__) := ⟨rfl, rfl, rfl, by decide +kernel, rfl, by decide +kernel, by decide +kernel⟩
noncomputable def b_Tree___and__ (Γ : Gam) : Fs := (sSeq (sIf (tNt (tTru (eBlt (isiW Tx.tc Tx.kt) (aCons (rVar 1) (aCons (eC (.cls "Tree")) aNil))))) (fun _ _ => .bad) sNil)
    (sRet (eNew "Beside" 3 (Γ.i 4) [] (aCons (eL (nLst (aCons (eVar 0) (aCons (eVar 1) aNil)))) (aCons (eC (.int 2)) aNil)))))
theorem d_Tree___and__ {P : Program} {w : World} {K : PySem.W.Frag} {mg : Str → Option Value} {base : Heap} {cl : Str → Addr} {k : Nat} {Γ : Gam} {qual : Str} {f : Addr} {cdv : Value} {A : Around} {outer : List Env} {s : Shared} {H : Hp} {E : XK} {B : Bs} (hF : Fx K mg cl Tx) (hX : Ox K cl Tt) (hI : GetT K cl Tt) (hH : Hy P w K mg base cl (4 * k) Tx Γ)
    (h : Ctx (cxOf (CX P w) P w K mg base N_Tree___and__ qual (defScope st_Tree___and__) f cdv A outer s H E) (fun cls d _ H => E cls d H) (4 * k + 3)) : SXs ⟨K, cl⟩ (cxOf (CX P w) P w K mg base N_Tree___and__ qual (defScope st_Tree___and__) f cdv A outer s H E) (fun cls d _ H => E cls d H) B (defBody st_Tree___and__) (b_Tree___and__ Γ) :=
  (x_cons (x_if (t_not (t_truth (SE.rd (s_isi hF 12 (s_rvar 1) (SE.rd (s_cl hF 10)))))) (x_one x_bad) x_nil)
    (x_one (x_ret (s_new (hH.iniAt 6) (h.hr.mono (by omega)) h.tk (a_cons (SN.se (n_lst (a_cons (s_var 0) (a_cons (s_var 1) a_nil)))) (a_cons s_int a_nil))))))

abbrev st_Tree___mul__ : Stmt := (inClass (top 35) 9)
abbrev N_Tree___mul__ : List Str := ["self", "count"]
theorem sc_Tree___mul__ : FnScope N_Tree___mul__ ["self", "count"] (defScope st_Tree___mul__) := ⟨rfl, rfl, rfl, by decide +kernel, rfl, by decide +kernel, by decide +kernel⟩
noncomputable def b_Tree___mul__ (Γ : Gam) : Fs := (sSeq (sIf (tOrr (tNt (tTru (eCall 1 (Γ.f 0) [] (aCons (eVar 1) aNil)))) (tBl (op2 (cmpI fun i j => decide (i < j)) (rVar 1) (eC (.int 1))))) (fun _ _ => .bad) sNil)
    (sRet (eNew "Again" 3 (Γ.i 5) [] (aCons (eVar 0) (aCons (eVar 1) aNil)))))
theorem d_Tree___mul__ {P : Program} {w : World} {K : PySem.W.Frag} {mg : Str → Option Value} {base : Heap} {cl : Str → Addr} {k : Nat} {Γ : Gam} {qual : Str} {f : Addr} {cdv : Value} {A : Around} {outer : List Env} {s : Shared} {H : Hp} {E : XK} {B : Bs} (hF : Fx K mg cl Tx) (hX : Ox K cl Tt) (hI : GetT K cl Tt) (hH : Hy P w K mg base cl (4 * k) Tx Γ)
    (h : Ctx (cxOf (CX P w) P w K mg base N_Tree___mul__ qual (defScope st_Tree___mul__) f cdv A outer s H E) (fun cls d _ H => E cls d H) (4 * k + 3)) : SXs ⟨K, cl⟩ (cxOf (CX P w) P w K mg base N_Tree___mul__ qual (defScope st_Tree___mul__) f cdv A outer s H E) (fun cls d _ H => E cls d H) B (defBody st_Tree___mul__) (b_Tree___mul__ Γ) :=
  (x_cons (x_if (PW.pt (t_or (t_not (t_truth (SE.rd (s_call (hH.fnAt 0) (h.hr.mono (by omega)) h.tk (a_cons (s_var 1) a_nil))))) (t_or1 (t_of_cmp o_lt (s_rvar 1) (SE.rd s_int))))) (x_one x_bad) x_nil)
    (x_one (x_ret (s_new (hH.iniAt 7) (h.hr.mono (by omega)) h.tk (a_cons (s_var 0) (a_cons (s_var 1) a_nil))))))

abbrev st_Tree___invert__ : Stmt := (inClass (top 35) 10)
abbrev N_Tree___invert__ : List Str := ["self"]
theorem sc_Tree___invert__ : FnScope N_Tree___invert__ ["self"] (defScope st_Tree___invert__) := ⟨rfl, rfl, rfl, by decide +kernel, rfl, by decide +kernel, by decide +kernel⟩
noncomputable def b_Tree___invert__ (Γ : Gam) : Fs := (sRet (eNew "Not" 2 (Γ.i 8) [] (aCons (eVar 0) aNil)))
theorem d_Tree___invert__ {P : Program} {w : World} {K : PySem.W.Frag} {mg : Str → Option Value} {base : Heap} {cl : Str → Addr} {k : Nat} {Γ : Gam} {qual : Str} {f : Addr} {cdv : Value} {A : Around} {outer : List Env} {s : Shared} {H : Hp} {E : XK} {B : Bs} (hF : Fx K mg cl Tx) (hX : Ox K cl Tt) (hI : GetT K cl Tt) (hH : Hy P w K mg base cl (4 * k) Tx Γ)
    (h : Ctx (cxOf (CX P w) P w K mg base N_Tree___invert__ qual (defScope st_Tree___invert__) f cdv A outer s H E) (fun cls d _ H => E cls d H) (4 * k + 3)) : SXs ⟨K, cl⟩ (cxOf (CX P w) P w K mg base N_Tree___invert__ qual (defScope st_Tree___invert__) f cdv A outer s H E) (fun cls d _ H => E cls d H) B (defBody st_Tree___invert__) (b_Tree___invert__ Γ) :=
  (x_one (x_ret (s_new (hH.iniAt 10) (h.hr.mono (by omega)) h.tk (a_cons (s_var 0) a_nil))))

abbrev st_Tree___eq__ : Stmt := (inClass (top 35) 14)
abbrev N_Tree___eq__ : List Str := ["self", "other"]
theorem sc_Tree___eq__ : FnScope N_Tree___eq__ ["self", "other"] (defScope st_Tree___eq__) := ⟨rfl, rfl, rfl, by decide +kernel, rfl, by decide +kernel, by decide +kernel⟩
noncomputable def b_Tree___eq__ (Γ : Gam) : Fs := (sRet (eAnd (eBlt (isiW Tx.tc Tx.kt) (aCons (rVar 1) (aCons (eC (.cls "Tree")) aNil))) (op2 eqW (op1 (fldW Tx.ats "script") (rVar 0)) (op1 (fldW Tx.ats "script") (rVar 1)))))
theorem d_Tree___eq__ {P : Program} {w : World} {K : PySem.W.Frag} {mg : Str → Option Value} {base : Heap} {cl : Str → Addr} {k : Nat} {Γ : Gam} {qual : Str} {f : Addr} {cdv : Value} {A : Around} {outer : List Env} {s : Shared} {H : Hp} {E : XK} {B : Bs} (hF : Fx K mg cl Tx) (hX : Ox K cl Tt) (hI : GetT K cl Tt) (hH : Hy P w K mg base cl (4 * k) Tx Γ)
    (h : Ctx (cxOf (CX P w) P w K mg base N_Tree___eq__ qual (defScope st_Tree___eq__) f cdv A outer s H E) (fun cls d _ H => E cls d H) (4 * k + 3)) : SXs ⟨K, cl⟩ (cxOf (CX P w) P w K mg base N_Tree___eq__ qual (defScope st_Tree___eq__) f cdv A outer s H E) (fun cls d _ H => E cls d H) B (defBody st_Tree___eq__) (b_Tree___eq__ Γ) :=
  (x_one (x_ret (s_and (s_isi hF 12 (s_rvar 1) (SE.rd (s_cl hF 10))) (s_bone (s_cmp (o_eq h.hr) (SE.rd (s_fld hF.at_ rfl (s_rvar 0))) (SE.rd (s_fld hF.at_ rfl (s_rvar 1))))))))

abbrev st_Tree___str__ : Stmt := (inClass (top 35) 15)
abbrev N_Tree___str__ : List Str := ["self"]
theorem sc_Tree___str__ : FnScope N_Tree___str__ ["self"] (defScope st_Tree___str__) := ⟨rfl, rfl, rfl, by decide +kernel, rfl, by decide +kernel, by decide +kernel⟩
noncomputable def b_Tree___str__ (Γ : Gam) : Fs := (sRet (eJoin (eC (.str "\n")) (op1 (fldW Tx.ats "script") (rVar 0))))
theorem d_Tree___str__ {P : Program} {w : World} {K : PySem.W.Frag} {mg : Str → Option Value} {base : Heap} {cl : Str → Addr} {k : Nat} {Γ : Gam} {qual : Str} {f : Addr} {cdv : Value} {A : Around} {outer : List Env} {s : Shared} {H : Hp} {E : XK} {B : Bs} (hF : Fx K mg cl Tx) (hX : Ox K cl Tt) (hI : GetT K cl Tt) (hH : Hy P w K mg base cl (4 * k) Tx Γ)
    (h : Ctx (cxOf (CX P w) P w K mg base N_Tree___str__ qual (defScope st_Tree___str__) f cdv A outer s H E) (fun cls d _ H => E cls d H) (4 * k + 3)) : SXs ⟨K, cl⟩ (cxOf (CX P w) P w K mg base N_Tree___str__ qual (defScope st_Tree___str__) f cdv A outer s H E) (fun cls d _ H => E cls d H) B (defBody st_Tree___str__) (b_Tree___str__ Γ) :=
  (x_one (x_ret (s_join s_str (SE.rd (s_fld hF.at_ rfl (s_rvar 0))))))

abbrev st_Tree___len__ : Stmt := (inClass (top 35) 11)
abbrev N_Tree___len__ : List Str := ["self"]
theorem sc_Tree___len__ : FnScope N_Tree___len__ ["self"] (defScope st_Tree___len__) := ⟨rfl, rfl, rfl, by decide +kernel, rfl, by decide +kernel, by decide +kernel⟩
noncomputable def b_Tree___len__ (Γ : Gam) : Fs := (sRet (eBlt lenW (aCons (op1 (fldW Tx.ats "nodes") (eVar 0)) aNil)))
theorem d_Tree___len__ {P : Program} {w : World} {K : PySem.W.Frag} {mg : Str → Option Value} {base : Heap} {cl : Str → Addr} {k : Nat} {Γ : Gam} {qual : Str} {f : Addr} {cdv : Value} {A : Around} {outer : List Env} {s : Shared} {H : Hp} {E : XK} {B : Bs} (hF : Fx K mg cl Tx) (hX : Ox K cl Tt) (hI : GetT K cl Tt) (hH : Hy P w K mg base cl (4 * k) Tx Γ)
    (h : Ctx (cxOf (CX P w) P w K mg base N_Tree___len__ qual (defScope st_Tree___len__) f cdv A outer s H E) (fun cls d _ H => E cls d H) (4 * k + 3)) : SXs ⟨K, cl⟩ (cxOf (CX P w) P w K mg base N_Tree___len__ qual (defScope st_Tree___len__) f cdv A outer s H E) (fun cls d _ H => E cls d H) B (defBody st_Tree___len__) (b_Tree___len__ Γ) :=
  (x_one (x_ret (s_len (SE.rd (s_fldE hF.at_ rfl (s_var 0))) (hF.nog.at 0))))

abbrev st_Tree___getitem__ : Stmt := (inClass (top 35) 12)
abbrev N_Tree___getitem__ : List Str := ["self", "at"]
theorem sc_Tree___getitem__ : FnScope N_Tree___getitem__ ["self", "at"] (defScope st_Tree___getitem__) := ⟨rfl, rfl, rfl, by decide +kernel, rfl, by decide +kernel, by decide +kernel⟩
noncomputable def b_Tree___getitem__ (Γ : Gam) : Fs := (sSeq (sIf (tNt (tBl (eChain (cmpI fun i j => decide (i ≤ j)) (cmpI fun i j => decide (i < j)) (eC (.int 0)) (rVar 1) (eBlt lenW (aCons (op1 (fldW Tx.ats "nodes") (eVar 0)) aNil))))) (fun _ _ => .bad) sNil)
    (sRet (op2 ixW (op1 (fldW Tx.ats "nodes") (eVar 0)) (rVar 1))))
theorem d_Tree___getitem__ {P : Program} {w : World} {K : PySem.W.Frag} {mg : Str → Option Value} {base : Heap} {cl : Str → Addr} {k : Nat} {Γ : Gam} {qual : Str} {f : Addr} {cdv : Value} {A : Around} {outer : List Env} {s : Shared} {H : Hp} {E : XK} {B : Bs} (hF : Fx K mg cl Tx) (hX : Ox K cl Tt) (hI : GetT K cl Tt) (hH : Hy P w K mg base cl (4 * k) Tx Γ)
    (h : Ctx (cxOf (CX P w) P w K mg base N_Tree___getitem__ qual (defScope st_Tree___getitem__) f cdv A outer s H E) (fun cls d _ H => E cls d H) (4 * k + 3)) : SXs ⟨K, cl⟩ (cxOf (CX P w) P w K mg base N_Tree___getitem__ qual (defScope st_Tree___getitem__) f cdv A outer s H E) (fun cls d _ H => E cls d H) B (defBody st_Tree___getitem__) (b_Tree___getitem__ Γ) :=
  (x_cons (x_if (t_not (t_chain o_le o_lt (SE.rd s_int) (s_rvar 1) (SE.rd (s_len (SE.rd (s_fldE hF.at_ rfl (s_var 0))) (hF.nog.at 0))))) (x_one x_bad) x_nil)
    (x_one (x_ret (s_ix i_x (SE.rd (s_fldE hF.at_ rfl (s_var 0))) (s_rvar 1)))))

abbrev st_Tree_put : Stmt := (inClass (top 35) 4)
abbrev N_Tree_put : List Str := ["self", "at", "other", "blocks", "begin", "block", "size"]
theorem sc_Tree_put : FnScope N_Tree_put ["self", "at", "other"] (defScope st_Tree_put) := ⟨rfl, rfl, rfl, by decide +kernel, rfl, by decide +kernel, by decide +kernel⟩
noncomputable def b_Tree_put (Γ : Gam) : Fs := (sSeq (sIf (tNt (tBl (eChain (cmpI fun i j => decide (i ≤ j)) (cmpI fun i j => decide (i < j)) (eC (.int 0)) (rVar 1) (eBlt lenW (aCons (op1 (fldW Tx.ats "nodes") (eVar 0)) aNil))))) (fun _ _ => .bad) sNil)
    (sSeq (sIf (tBl (op2 eqW (rVar 1) (eC (.int 0)))) (sRet (eVar 2)) sNil)
    (sSeq (sSetN 3 (nLst aNil))
    (sSeq (sSet 4 (eC (.int 1)))
    (sSeq (sFor (iSeq (op1 (fldW Tx.ats "blocks") (rVar 0))) (bName 5) (sSeq (sSet 6 (eBlt lenW (aCons (op1 (fldW Tx.ats "nodes") (eVar 5)) aNil)))
    (sSeq (sApp 3 (eIf (tBl (eChain (cmpI fun i j => decide (i ≤ j)) (cmpI fun i j => decide (i < j)) (rVar 4) (rVar 1) (op2 addW (rVar 4) (rVar 6)))) (eMeth "put" Tt 3 [] (Γ.m 9) (eVar 5) (aCons (op2 subW (rVar 1) (rVar 4)) (aCons (eVar 2) aNil))) (eVar 5)))
    (sAug 4 (eVar 6) addIM))))
    (sRet (eMeth "anew" Tt 2 [] (Γ.m 10) (eVar 0) (aCons (eBlt tupleW (aCons (rVar 3) aNil)) aNil))))))))
theorem d_Tree_put {P : Program} {w : World} {K : PySem.W.Frag} {mg : Str → Option Value} {base : Heap} {cl : Str → Addr} {k : Nat} {Γ : Gam} {qual : Str} {f : Addr} {cdv : Value} {A : Around} {outer : List Env} {s : Shared} {H : Hp} {E : XK} {B : Bs} (hF : Fx K mg cl Tx) (hX : Ox K cl Tt) (hI : GetT K cl Tt) (hH : Hy P w K mg base cl (4 * k) Tx Γ)
    (h : Ctx (cxOf (CX P w) P w K mg base N_Tree_put qual (defScope st_Tree_put) f cdv A outer s H E) (fun cls d _ H => E cls d H) (4 * k + 3)) : SXs ⟨K, cl⟩ (cxOf (CX P w) P w K mg base N_Tree_put qual (defScope st_Tree_put) f cdv A outer s H E) (fun cls d _ H => E cls d H) B (defBody st_Tree_put) (b_Tree_put Γ) :=
  (x_cons (x_if (t_not (t_chain o_le o_lt (SE.rd s_int) (s_rvar 1) (SE.rd (s_len (SE.rd (s_fldE hF.at_ rfl (s_var 0))) (hF.nog.at 0))))) (x_one x_bad) x_nil)
    (x_cons (x_if (t_of_cmp (o_eq h.hr) (s_rvar 1) (SE.rd s_int)) (x_one (x_ret (s_var 2))) x_nil)
    (x_cons (x_setN (i := 3) h.nd rfl (by first | exact Or.inl rfl | exact Or.inr rfl) (n_lst a_nil))
    (x_cons (x_set (i := 4) h.nd rfl (by first | exact Or.inl rfl | exact Or.inr rfl) s_int)
    (x_cons (x_for h (i_seq (s_fld hF.at_ rfl (s_rvar 0))) (g_name h.nd rfl (by first | exact Or.inl rfl | exact Or.inr rfl)) (fun _ => (x_cons (x_set (i := 6) h.nd rfl (by first | exact Or.inl rfl | exact Or.inr rfl) (s_len (SE.rd (s_fldE hF.at_ rfl (s_var 5))) (hF.nog.at 0)))
    (x_cons (x_append (i := 3) (s_if (t_chain o_le o_lt (s_rvar 4) (s_rvar 1) (SE.rd (s_bin o_add (s_rvar 4) (s_rvar 6)))) (s_meth hX.cls (hH.metsOf (by decide +kernel)) (h.hr.mono (by omega)) h.tk (s_var 5) (a_cons (s_bin o_sub (s_rvar 1) (s_rvar 4)) (a_cons (s_var 2) a_nil))) (s_var 5)))
    (x_one (x_aug (i := 4) ip_addI h.nd rfl (by first | exact Or.inl rfl | exact Or.inr rfl) (s_var 6)))))))
    (x_one (x_ret (s_meth hX.cls (hH.metsOf (by decide +kernel)) (h.hr.mono (by omega)) h.tk (s_var 0) (a_cons (s_tuple' (s_rvar 3) (hF.nog.at 3)) a_nil)))))))))

abbrev st_Tree_anew : Stmt := (inClass (top 35) 3)
abbrev N_Tree_anew : List Str := ["self", "blocks"]
theorem sc_Tree_anew : FnScope N_Tree_anew ["self", "blocks"] (defScope st_Tree_anew) := ⟨rfl, rfl, rfl, by decide +kernel, rfl, by decide +kernel, by decide +kernel⟩
noncomputable def b_Tree_anew (Γ : Gam) : Fs := (sRet (eVar 0))
theorem d_Tree_anew {P : Program} {w : World} {K : PySem.W.Frag} {mg : Str → Option Value} {base : Heap} {cl : Str → Addr} {k : Nat} {Γ : Gam} {qual : Str} {f : Addr} {cdv : Value} {A : Around} {outer : List Env} {s : Shared} {H : Hp} {E : XK} {B : Bs} (hF : Fx K mg cl Tx) (hX : Ox K cl Tt) (hI : GetT K cl Tt) (hH : Hy P w K mg base cl (4 * k) Tx Γ)
    (h : Ctx (cxOf (CX P w) P w K mg base N_Tree_anew qual (defScope st_Tree_anew) f cdv A outer s H E) (fun cls d _ H => E cls d H) (4 * k + 3)) : SXs ⟨K, cl⟩ (cxOf (CX P w) P w K mg base N_Tree_anew qual (defScope st_Tree_anew) f cdv A outer s H E) (fun cls d _ H => E cls d H) B (defBody st_Tree_anew) (b_Tree_anew Γ) :=
  (x_one (x_ret (s_var 0)))

abbrev st_Row_anew : Stmt := (inClass (top 38) 1)
abbrev N_Row_anew : List Str := ["self", "blocks"]
theorem sc_Row_anew : FnScope N_Row_anew ["self", "blocks"] (defScope st_Row_anew) := ⟨rfl, rfl, rfl, by decide +kernel, rfl, by decide +kernel, by decide +kernel⟩
noncomputable def b_Row_anew (Γ : Gam) : Fs := (sRet (eNew "Row" 3 (Γ.i 2) [] (aCons (eVar 1) (aCons (op1 (fldW Tx.ats "kept") (rVar 0)) aNil))))
theorem d_Row_anew {P : Program} {w : World} {K : PySem.W.Frag} {mg : Str → Option Value} {base : Heap} {cl : Str → Addr} {k : Nat} {Γ : Gam} {qual : Str} {f : Addr} {cdv : Value} {A : Around} {outer : List Env} {s : Shared} {H : Hp} {E : XK} {B : Bs} (hF : Fx K mg cl Tx) (hX : Ox K cl Tt) (hI : GetT K cl Tt) (hH : Hy P w K mg base cl (4 * k) Tx Γ)
    (h : Ctx (cxOf (CX P w) P w K mg base N_Row_anew qual (defScope st_Row_anew) f cdv A outer s H E) (fun cls d _ H => E cls d H) (4 * k + 3)) : SXs ⟨K, cl⟩ (cxOf (CX P w) P w K mg base N_Row_anew qual (defScope st_Row_anew) f cdv A outer s H E) (fun cls d _ H => E cls d H) B (defBody st_Row_anew) (b_Row_anew Γ) :=
  (x_one (x_ret (s_new (hH.iniAt 2) (h.hr.mono (by omega)) h.tk (a_cons (s_var 1) (a_cons (s_fld hF.at_ rfl (s_rvar 0)) a_nil)))))

abbrev st_First_anew : Stmt := (inClass (top 39) 1)
abbrev N_First_anew : List Str := ["self", "blocks"]
theorem sc_First_anew : FnScope N_First_anew ["self", "blocks"] (defScope st_First_anew) := ⟨rfl, rfl, rfl, by decide +kernel, rfl, by decide +kernel, by decide +kernel⟩
noncomputable def b_First_anew (Γ : Gam) : Fs := (sRet (eNew "First" 3 (Γ.i 3) [] (aCons (eVar 1) (aCons (op1 (fldW Tx.ats "kept") (rVar 0)) aNil))))
theorem d_First_anew {P : Program} {w : World} {K : PySem.W.Frag} {mg : Str → Option Value} {base : Heap} {cl : Str → Addr} {k : Nat} {Γ : Gam} {qual : Str} {f : Addr} {cdv : Value} {A : Around} {outer : List Env} {s : Shared} {H : Hp} {E : XK} {B : Bs} (hF : Fx K mg cl Tx) (hX : Ox K cl Tt) (hI : GetT K cl Tt) (hH : Hy P w K mg base cl (4 * k) Tx Γ)
    (h : Ctx (cxOf (CX P w) P w K mg base N_First_anew qual (defScope st_First_anew) f cdv A outer s H E) (fun cls d _ H => E cls d H) (4 * k + 3)) : SXs ⟨K, cl⟩ (cxOf (CX P w) P w K mg base N_First_anew qual (defScope st_First_anew) f cdv A outer s H E) (fun cls d _ H => E cls d H) B (defBody st_First_anew) (b_First_anew Γ) :=
  (x_one (x_ret (s_new (hH.iniAt 4) (h.hr.mono (by omega)) h.tk (a_cons (s_var 1) (a_cons (s_fld hF.at_ rfl (s_rvar 0)) a_nil)))))

abbrev st_Beside_anew : Stmt := (inClass (top 40) 1)
abbrev N_Beside_anew : List Str := ["self", "blocks"]
theorem sc_Beside_anew : FnScope N_Beside_anew ["self", "blocks"] (defScope st_Beside_anew) := ⟨rfl, rfl, rfl, by decide +kernel, rfl, by decide +kernel, by decide +kernel⟩
noncomputable def b_Beside_anew (Γ : Gam) : Fs := (sRet (eNew "Beside" 3 (Γ.i 4) [] (aCons (eVar 1) (aCons (op1 (fldW Tx.ats "needed") (rVar 0)) aNil))))
theorem d_Beside_anew {P : Program} {w : World} {K : PySem.W.Frag} {mg : Str → Option Value} {base : Heap} {cl : Str → Addr} {k : Nat} {Γ : Gam} {qual : Str} {f : Addr} {cdv : Value} {A : Around} {outer : List Env} {s : Shared} {H : Hp} {E : XK} {B : Bs} (hF : Fx K mg cl Tx) (hX : Ox K cl Tt) (hI : GetT K cl Tt) (hH : Hy P w K mg base cl (4 * k) Tx Γ)
    (h : Ctx (cxOf (CX P w) P w K mg base N_Beside_anew qual (defScope st_Beside_anew) f cdv A outer s H E) (fun cls d _ H => E cls d H) (4 * k + 3)) : SXs ⟨K, cl⟩ (cxOf (CX P w) P w K mg base N_Beside_anew qual (defScope st_Beside_anew) f cdv A outer s H E) (fun cls d _ H => E cls d H) B (defBody st_Beside_anew) (b_Beside_anew Γ) :=
  (x_one (x_ret (s_new (hH.iniAt 6) (h.hr.mono (by omega)) h.tk (a_cons (s_var 1) (a_cons (s_fld hF.at_ rfl (s_rvar 0)) a_nil)))))

abbrev st_Again_anew : Stmt := (inClass (top 41) 1)
abbrev N_Again_anew : List Str := ["self", "blocks"]
theorem sc_Again_anew : FnScope N_Again_anew ["self", "blocks"] (defScope st_Again_anew) := ⟨rfl, rfl, rfl, by decide +kernel, rfl, by decide +kernel, by decide +kernel⟩
noncomputable def b_Again_anew (Γ : Gam) : Fs := (sRet (eNew "Again" 3 (Γ.i 5) [] (aCons (op2 ixW (rVar 1) (eC (.int 0))) (aCons (op1 (fldW Tx.ats "rounds") (rVar 0)) aNil))))
theorem d_Again_anew {P : Program} {w : World} {K : PySem.W.Frag} {mg : Str → Option Value} {base : Heap} {cl : Str → Addr} {k : Nat} {Γ : Gam} {qual : Str} {f : Addr} {cdv : Value} {A : Around} {outer : List Env} {s : Shared} {H : Hp} {E : XK} {B : Bs} (hF : Fx K mg cl Tx) (hX : Ox K cl Tt) (hI : GetT K cl Tt) (hH : Hy P w K mg base cl (4 * k) Tx Γ)
    (h : Ctx (cxOf (CX P w) P w K mg base N_Again_anew qual (defScope st_Again_anew) f cdv A outer s H E) (fun cls d _ H => E cls d H) (4 * k + 3)) : SXs ⟨K, cl⟩ (cxOf (CX P w) P w K mg base N_Again_anew qual (defScope st_Again_anew) f cdv A outer s H E) (fun cls d _ H => E cls d H) B (defBody st_Again_anew) (b_Again_anew Γ) :=
  (x_one (x_ret (s_new (hH.iniAt 7) (h.hr.mono (by omega)) h.tk (a_cons (s_ix i_x (s_rvar 1) (SE.rd s_int)) (a_cons (s_fld hF.at_ rfl (s_rvar 0)) a_nil)))))

abbrev st_While_anew : Stmt := (inClass (top 42) 1)
abbrev N_While_anew : List Str := ["self", "blocks"]
theorem sc_While_anew : FnScope N_While_anew ["self", "blocks"] (defScope st_While_anew) := ⟨rfl, rfl, rfl, by decide +kernel, rfl, by decide +kernel, by decide +kernel⟩
noncomputable def b_While_anew (Γ : Gam) : Fs := (sRet (eNew "While" 3 (Γ.i 6) [] (aCons (op1 (fldW Tx.ats "question") (rVar 0)) (aCons (op2 ixW (rVar 1) (eC (.int 0))) aNil))))
theorem d_While_anew {P : Program} {w : World} {K : PySem.W.Frag} {mg : Str → Option Value} {base : Heap} {cl : Str → Addr} {k : Nat} {Γ : Gam} {qual : Str} {f : Addr} {cdv : Value} {A : Around} {outer : List Env} {s : Shared} {H : Hp} {E : XK} {B : Bs} (hF : Fx K mg cl Tx) (hX : Ox K cl Tt) (hI : GetT K cl Tt) (hH : Hy P w K mg base cl (4 * k) Tx Γ)
    (h : Ctx (cxOf (CX P w) P w K mg base N_While_anew qual (defScope st_While_anew) f cdv A outer s H E) (fun cls d _ H => E cls d H) (4 * k + 3)) : SXs ⟨K, cl⟩ (cxOf (CX P w) P w K mg base N_While_anew qual (defScope st_While_anew) f cdv A outer s H E) (fun cls d _ H => E cls d H) B (defBody st_While_anew) (b_While_anew Γ) :=
  (x_one (x_ret (s_new (hH.iniAt 8) (h.hr.mono (by omega)) h.tk (a_cons (s_fld hF.at_ rfl (s_rvar 0)) (a_cons (s_ix i_x (s_rvar 1) (SE.rd s_int)) a_nil)))))

abbrev st_If_anew : Stmt := (inClass (top 43) 1)
abbrev N_If_anew : List Str := ["self", "blocks"]
theorem sc_If_anew : FnScope N_If_anew ["self", "blocks"] (defScope st_If_anew) := ⟨rfl, rfl, rfl, by decide +kernel, rfl, by decide +kernel, by decide +kernel⟩
noncomputable def b_If_anew (Γ : Gam) : Fs := (sRet (eNew "If" 3 (Γ.i 7) [] (aCons (op1 (fldW Tx.ats "question") (rVar 0)) (aCons (op2 ixW (rVar 1) (eC (.int 0))) aNil))))
theorem d_If_anew {P : Program} {w : World} {K : PySem.W.Frag} {mg : Str → Option Value} {base : Heap} {cl : Str → Addr} {k : Nat} {Γ : Gam} {qual : Str} {f : Addr} {cdv : Value} {A : Around} {outer : List Env} {s : Shared} {H : Hp} {E : XK} {B : Bs} (hF : Fx K mg cl Tx) (hX : Ox K cl Tt) (hI : GetT K cl Tt) (hH : Hy P w K mg base cl (4 * k) Tx Γ)
    (h : Ctx (cxOf (CX P w) P w K mg base N_If_anew qual (defScope st_If_anew) f cdv A outer s H E) (fun cls d _ H => E cls d H) (4 * k + 3)) : SXs ⟨K, cl⟩ (cxOf (CX P w) P w K mg base N_If_anew qual (defScope st_If_anew) f cdv A outer s H E) (fun cls d _ H => E cls d H) B (defBody st_If_anew) (b_If_anew Γ) :=
  (x_one (x_ret (s_new (hH.iniAt 9) (h.hr.mono (by omega)) h.tk (a_cons (s_fld hF.at_ rfl (s_rvar 0)) (a_cons (s_ix i_x (s_rvar 1) (SE.rd s_int)) a_nil)))))

abbrev st_Not_anew : Stmt := (inClass (top 44) 1)
abbrev N_Not_anew : List Str := ["self", "blocks"]
theorem sc_Not_anew : FnScope N_Not_anew ["self", "blocks"] (defScope st_Not_anew) := ⟨rfl, rfl, rfl, by decide +kernel, rfl, by decide +kernel, by decide +kernel⟩
noncomputable def b_Not_anew (Γ : Gam) : Fs := (sRet (eNew "Not" 2 (Γ.i 8) [] (aCons (op2 ixW (rVar 1) (eC (.int 0))) aNil)))
theorem d_Not_anew {P : Program} {w : World} {K : PySem.W.Frag} {mg : Str → Option Value} {base : Heap} {cl : Str → Addr} {k : Nat} {Γ : Gam} {qual : Str} {f : Addr} {cdv : Value} {A : Around} {outer : List Env} {s : Shared} {H : Hp} {E : XK} {B : Bs} (hF : Fx K mg cl Tx) (hX : Ox K cl Tt) (hI : GetT K cl Tt) (hH : Hy P w K mg base cl (4 * k) Tx Γ)
    (h : Ctx (cxOf (CX P w) P w K mg base N_Not_anew qual (defScope st_Not_anew) f cdv A outer s H E) (fun cls d _ H => E cls d H) (4 * k + 3)) : SXs ⟨K, cl⟩ (cxOf (CX P w) P w K mg base N_Not_anew qual (defScope st_Not_anew) f cdv A outer s H E) (fun cls d _ H => E cls d H) B (defBody st_Not_anew) (b_Not_anew Γ) :=
  (x_one (x_ret (s_new (hH.iniAt 10) (h.hr.mono (by omega)) h.tk (a_cons (s_ix i_x (s_rvar 1) (SE.rd s_int)) a_nil))))

abbrev st_Always_anew : Stmt := (inClass (top 45) 1)
abbrev N_Always_anew : List Str := ["self", "blocks"]
theorem sc_Always_anew : FnScope N_Always_anew ["self", "blocks"] (defScope st_Always_anew) := ⟨rfl, rfl, rfl, by decide +kernel, rfl, by decide +kernel, by decide +kernel⟩
noncomputable def b_Always_anew (Γ : Gam) : Fs := (sRet (eNew "Always" 3 (Γ.i 9) [] (aCons (op1 (fldW Tx.ats "word") (rVar 0)) (aCons (op2 ixW (rVar 1) (eC (.int 0))) aNil))))
theorem d_Always_anew {P : Program} {w : World} {K : PySem.W.Frag} {mg : Str → Option Value} {base : Heap} {cl : Str → Addr} {k : Nat} {Γ : Gam} {qual : Str} {f : Addr} {cdv : Value} {A : Around} {outer : List Env} {s : Shared} {H : Hp} {E : XK} {B : Bs} (hF : Fx K mg cl Tx) (hX : Ox K cl Tt) (hI : GetT K cl Tt) (hH : Hy P w K mg base cl (4 * k) Tx Γ)
    (h : Ctx (cxOf (CX P w) P w K mg base N_Always_anew qual (defScope st_Always_anew) f cdv A outer s H E) (fun cls d _ H => E cls d H) (4 * k + 3)) : SXs ⟨K, cl⟩ (cxOf (CX P w) P w K mg base N_Always_anew qual (defScope st_Always_anew) f cdv A outer s H E) (fun cls d _ H => E cls d H) B (defBody st_Always_anew) (b_Always_anew Γ) :=
  (x_one (x_ret (s_new (hH.iniAt 11) (h.hr.mono (by omega)) h.tk (a_cons (s_fld hF.at_ rfl (s_rvar 0)) (a_cons (s_ix i_x (s_rvar 1) (SE.rd s_int)) a_nil)))))

abbrev st_Tree___init__ : Stmt := (inClass (top 35) 0)
abbrev N_Tree___init__ : List Str := ["self", "sort", "blocks", "script", "found", "block"]
theorem sc_Tree___init__ : FnScope N_Tree___init__ ["self", "sort", "blocks", "script"] (defScope st_Tree___init__) := ⟨rfl, rfl, rfl, by decide +kernel, rfl, by decide +kernel, by decide +kernel⟩
noncomputable def b_Tree___init__ (Γ : Gam) : Fs := (sSeq (sFldS Tx.ats 0 "form" (eVar 1))
    (sSeq (sFldS Tx.ats 0 "blocks" (eVar 2))
    (sSeq (sFldS Tx.ats 0 "script" (eVar 3))
    (sTree Tx.ats))))
theorem d_Tree___init__ {P : Program} {w : World} {K : PySem.W.Frag} {mg : Str → Option Value} {base : Heap} {cl : Str → Addr} {k : Nat} {Γ : Gam} {qual : Str} {f : Addr} {cdv : Value} {A : Around} {outer : List Env} {s : Shared} {H : Hp} {E : XK} {B : Bs} (hF : Fx K mg cl Tx) (hX : Ox K cl Tt) (hI : GetT K cl Tt) (hH : Hy P w K mg base cl (4 * k) Tx Γ)
    (h : Ctx (cxOf (CX P w) P w K mg base N_Tree___init__ qual (defScope st_Tree___init__) f cdv A outer s H E) (fun cls d _ H => E cls d H) (4 * k + 3)) : SXs ⟨K, cl⟩ (cxOf (CX P w) P w K mg base N_Tree___init__ qual (defScope st_Tree___init__) f cdv A outer s H E) (fun cls d _ H => E cls d H) B (defBody st_Tree___init__) (b_Tree___init__ Γ) :=
  (x_cons (x_fld 0 hF.at_ rfl (s_var 1))
    (x_cons (x_fld 0 hF.at_ rfl (s_var 2))
    (x_cons (x_fld 0 hF.at_ rfl (s_var 3))
    (x_tree h hF.at_ (hF.nog.at 3) rfl rfl rfl rfl rfl rfl rfl rfl rfl))))

abbrev st_Do___init__ : Stmt := (inClass (top 36) 0)
abbrev N_Do___init__ : List Str := ["self", "action"]
theorem sc_Do___init__ : ScS N_Do___init__ ["self", "action"] (defScope st_Do___init__) := ⟨rfl, rfl, rfl, by decide +kernel, rfl, by decide +kernel, by decide +kernel, by decide +kernel⟩
noncomputable def b_Do___init__ (Γ : Gam) : Fs := (sSeq (sExp (eCall 2 (Γ.f 3) [] (aCons (eVar 1) (aCons (eC (.str "action")) aNil))))
    (sSeq (sSup "Do" 4 (Γ.i 10) (aCons (eC (.str "do")) (aCons (eTup aNil) (aCons (eTup (aCons (jsW [(eC (.str "do ")), (op1 fmtW (rVar 1))] Str.empty) aNil)) aNil))))
    (sFldS Tx.ats 0 "action" (eVar 1))))
theorem d_Do___init__ {P : Program} {w : World} {K : PySem.W.Frag} {mg : Str → Option Value} {base : Heap} {cl : Str → Addr} {k : Nat} {Γ : Gam} {qual x : Str} {f cda cc : Addr} {fd : FuncData} {A : Around} {outer : List Env} {s : Shared} {H : Hp} {E : XK} {B : Bs} (hF : Fx K mg cl Tx) (hX : Ox K cl Tt) (hI : GetT K cl Tt) (hH : Hy P w K mg base cl (4 * k) Tx Γ)
    (Fs : FunS P K x qual (defArgs st_Do___init__) (defBody st_Do___init__) (defScope st_Do___init__) f fd cc (cl "Do") cda) (SI : SupI P w K mg base cl (4 * k) "Do" 4 (Γ.i 10))
    (h : Ctx (cxS (CX P w) P w K mg base N_Do___init__ qual (defScope st_Do___init__) f cda cc A outer s H E) (fun cls d _ H => E cls d H) (4 * k + 3)) : SXA ⟨K, cl⟩ (cxS (CX P w) P w K mg base N_Do___init__ qual (defScope st_Do___init__) f cda cc A outer s H E) (fun cls d _ H => E cls d H) B (.func (defBody st_Do___init__) (envS qual (defScope st_Do___init__) s.heap.objs.size f cda cc)) (defBody st_Do___init__) (b_Do___init__ Γ) :=
  (a_step (a_one (x_expr (s_call (hH.fnAt 3) (h.hr.mono (by omega)) h.tk (a_cons (s_var 1) (a_cons s_str a_nil)))))
    (a_step (a_super Fs SI (h.hr.mono (by omega)) h.tk (a_cons s_str (a_cons (s_tup a_nil) (a_cons (s_tup (a_cons (s_js (SJ.cons s_str (SJ.cons (s_fmt (s_rvar 1)) SJ.nil))) a_nil)) a_nil))) rfl rfl rfl rfl rfl)
    (a_of (x_one (x_fld 0 hF.at_ rfl (s_var 1))))))

abbrev st_Ask___init__ : Stmt := (inClass (top 37) 0)
abbrev N_Ask___init__ : List Str := ["self", "question"]
theorem sc_Ask___init__ : ScS N_Ask___init__ ["self", "question"] (defScope st_Ask___init__) := ⟨rfl, rfl, rfl, by decide +kernel, rfl, by decide +kernel, by decide +kernel, by decide +kernel⟩
noncomputable def b_Ask___init__ (Γ : Gam) : Fs := (sSeq (sExp (eCall 2 (Γ.f 3) [] (aCons (eVar 1) (aCons (eC (.str "question")) aNil))))
    (sSeq (sSup "Ask" 4 (Γ.i 10) (aCons (eC (.str "ask")) (aCons (eTup aNil) (aCons (eTup (aCons (jsW [(eC (.str "ask ")), (op1 fmtW (rVar 1))] Str.empty) aNil)) aNil))))
    (sFldS Tx.ats 0 "question" (eVar 1))))
theorem d_Ask___init__ {P : Program} {w : World} {K : PySem.W.Frag} {mg : Str → Option Value} {base : Heap} {cl : Str → Addr} {k : Nat} {Γ : Gam} {qual x : Str} {f cda cc : Addr} {fd : FuncData} {A : Around} {outer : List Env} {s : Shared} {H : Hp} {E : XK} {B : Bs} (hF : Fx K mg cl Tx) (hX : Ox K cl Tt) (hI : GetT K cl Tt) (hH : Hy P w K mg base cl (4 * k) Tx Γ)
    (Fs : FunS P K x qual (defArgs st_Ask___init__) (defBody st_Ask___init__) (defScope st_Ask___init__) f fd cc (cl "Ask") cda) (SI : SupI P w K mg base cl (4 * k) "Ask" 4 (Γ.i 10))
    (h : Ctx (cxS (CX P w) P w K mg base N_Ask___init__ qual (defScope st_Ask___init__) f cda cc A outer s H E) (fun cls d _ H => E cls d H) (4 * k + 3)) : SXA ⟨K, cl⟩ (cxS (CX P w) P w K mg base N_Ask___init__ qual (defScope st_Ask___init__) f cda cc A outer s H E) (fun cls d _ H => E cls d H) B (.func (defBody st_Ask___init__) (envS qual (defScope st_Ask___init__) s.heap.objs.size f cda cc)) (defBody st_Ask___init__) (b_Ask___init__ Γ) :=
  (a_step (a_one (x_expr (s_call (hH.fnAt 3) (h.hr.mono (by omega)) h.tk (a_cons (s_var 1) (a_cons s_str a_nil)))))
    (a_step (a_super Fs SI (h.hr.mono (by omega)) h.tk (a_cons s_str (a_cons (s_tup a_nil) (a_cons (s_tup (a_cons (s_js (SJ.cons s_str (SJ.cons (s_fmt (s_rvar 1)) SJ.nil))) a_nil)) a_nil))) rfl rfl rfl rfl rfl)
    (a_of (x_one (x_fld 0 hF.at_ rfl (s_var 1))))))

abbrev st_Row___init__ : Stmt := (inClass (top 38) 0)
abbrev N_Row___init__ : List Str := ["self", "parts", "kept"]
theorem sc_Row___init__ : ScS N_Row___init__ ["self", "parts", "kept"] (defScope st_Row___init__) := ⟨rfl, rfl, rfl, by decide +kernel, rfl, by decide +kernel, by decide +kernel, by decide +kernel⟩
noncomputable def b_Row___init__ (Γ : Gam) : Fs := (sSeq (sFldS Tx.ats 0 "parts" (eCall 1 (Γ.f 5) [] (aCons (eVar 1) aNil)))
    (sSeq (sIf (tNt (tTru (eBlt (isiW Tx.tc Tx.kt) (aCons (rVar 2) (aCons (eC (.ty "bool")) aNil))))) (fun _ _ => .bad) sNil)
    (sSeq (sSup "Row" 4 (Γ.i 10) (aCons (eC (.str "row")) (aCons (op1 (fldW Tx.ats "parts") (rVar 0)) (aCons (eCall 3 (Γ.f 6) [] (aCons (eIf (tTru (rVar 2)) (eC (.str "row kept")) (eC (.str "row"))) (aCons (op1 (fldW Tx.ats "parts") (rVar 0)) (aCons (eTup (aCons (eC (.str "end")) aNil)) aNil)))) aNil))))
    (sFldS Tx.ats 0 "kept" (eVar 2)))))
theorem d_Row___init__ {P : Program} {w : World} {K : PySem.W.Frag} {mg : Str → Option Value} {base : Heap} {cl : Str → Addr} {k : Nat} {Γ : Gam} {qual x : Str} {f cda cc : Addr} {fd : FuncData} {A : Around} {outer : List Env} {s : Shared} {H : Hp} {E : XK} {B : Bs} (hF : Fx K mg cl Tx) (hX : Ox K cl Tt) (hI : GetT K cl Tt) (hH : Hy P w K mg base cl (4 * k) Tx Γ)
    (Fs : FunS P K x qual (defArgs st_Row___init__) (defBody st_Row___init__) (defScope st_Row___init__) f fd cc (cl "Row") cda) (SI : SupI P w K mg base cl (4 * k) "Row" 4 (Γ.i 10))
    (h : Ctx (cxS (CX P w) P w K mg base N_Row___init__ qual (defScope st_Row___init__) f cda cc A outer s H E) (fun cls d _ H => E cls d H) (4 * k + 3)) : SXA ⟨K, cl⟩ (cxS (CX P w) P w K mg base N_Row___init__ qual (defScope st_Row___init__) f cda cc A outer s H E) (fun cls d _ H => E cls d H) B (.func (defBody st_Row___init__) (envS qual (defScope st_Row___init__) s.heap.objs.size f cda cc)) (defBody st_Row___init__) (b_Row___init__ Γ) :=
  (a_step (a_one (x_fld 0 hF.at_ rfl (s_call (hH.fnAt 5) (h.hr.mono (by omega)) h.tk (a_cons (s_var 1) a_nil))))
    (a_step (a_one (x_if (t_not (t_truth (SE.rd (s_isi hF 12 (s_rvar 2) (SE.rd (s_ty (hF.nog.at 18) (by kernel_rfl))))))) (x_one x_bad) x_nil))
    (a_step (a_super Fs SI (h.hr.mono (by omega)) h.tk (a_cons s_str (a_cons (s_fld hF.at_ rfl (s_rvar 0)) (a_cons (s_call (hH.fnAt 6) (h.hr.mono (by omega)) h.tk (a_cons (s_if (t_truth (s_rvar 2)) s_str s_str) (a_cons (s_fld hF.at_ rfl (s_rvar 0)) (a_cons (s_tup (a_cons s_str a_nil)) a_nil)))) a_nil))) rfl rfl rfl rfl rfl)
    (a_of (x_one (x_fld 0 hF.at_ rfl (s_var 2)))))))

abbrev st_First___init__ : Stmt := (inClass (top 39) 0)
abbrev N_First___init__ : List Str := ["self", "parts", "kept"]
theorem sc_First___init__ : ScS N_First___init__ ["self", "parts", "kept"] (defScope st_First___init__) := ⟨rfl, rfl, rfl, by decide +kernel, rfl, by decide +kernel, by decide +kernel, by decide +kernel⟩
noncomputable def b_First___init__ (Γ : Gam) : Fs := (sSeq (sFldS Tx.ats 0 "parts" (eCall 1 (Γ.f 5) [] (aCons (eVar 1) aNil)))
    (sSeq (sIf (tNt (tTru (eBlt (isiW Tx.tc Tx.kt) (aCons (rVar 2) (aCons (eC (.ty "bool")) aNil))))) (fun _ _ => .bad) sNil)
    (sSeq (sSup "First" 4 (Γ.i 10) (aCons (eC (.str "first")) (aCons (op1 (fldW Tx.ats "parts") (rVar 0)) (aCons (eCall 3 (Γ.f 6) [] (aCons (eIf (tTru (rVar 2)) (eC (.str "first kept")) (eC (.str "first"))) (aCons (op1 (fldW Tx.ats "parts") (rVar 0)) (aCons (eTup (aCons (eC (.str "end")) aNil)) aNil)))) aNil))))
    (sFldS Tx.ats 0 "kept" (eVar 2)))))
theorem d_First___init__ {P : Program} {w : World} {K : PySem.W.Frag} {mg : Str → Option Value} {base : Heap} {cl : Str → Addr} {k : Nat} {Γ : Gam} {qual x : Str} {f cda cc : Addr} {fd : FuncData} {A : Around} {outer : List Env} {s : Shared} {H : Hp} {E : XK} {B : Bs} (hF : Fx K mg cl Tx) (hX : Ox K cl Tt) (hI : GetT K cl Tt) (hH : Hy P w K mg base cl (4 * k) Tx Γ)
    (Fs : FunS P K x qual (defArgs st_First___init__) (defBody st_First___init__) (defScope st_First___init__) f fd cc (cl "First") cda) (SI : SupI P w K mg base cl (4 * k) "First" 4 (Γ.i 10))
    (h : Ctx (cxS (CX P w) P w K mg base N_First___init__ qual (defScope st_First___init__) f cda cc A outer s H E) (fun cls d _ H => E cls d H) (4 * k + 3)) : SXA ⟨K, cl⟩ (cxS (CX P w) P w K mg base N_First___init__ qual (defScope st_First___init__) f cda cc A outer s H E) (fun cls d _ H => E cls d H) B (.func (defBody st_First___init__) (envS qual (defScope st_First___init__) s.heap.objs.size f cda cc)) (defBody st_First___init__) (b_First___init__ Γ) :=
  (a_step (a_one (x_fld 0 hF.at_ rfl (s_call (hH.fnAt 5) (h.hr.mono (by omega)) h.tk (a_cons (s_var 1) a_nil))))
    (a_step (a_one (x_if (t_not (t_truth (SE.rd (s_isi hF 12 (s_rvar 2) (SE.rd (s_ty (hF.nog.at 18) (by kernel_rfl))))))) (x_one x_bad) x_nil))
    (a_step (a_super Fs SI (h.hr.mono (by omega)) h.tk (a_cons s_str (a_cons (s_fld hF.at_ rfl (s_rvar 0)) (a_cons (s_call (hH.fnAt 6) (h.hr.mono (by omega)) h.tk (a_cons (s_if (t_truth (s_rvar 2)) s_str s_str) (a_cons (s_fld hF.at_ rfl (s_rvar 0)) (a_cons (s_tup (a_cons s_str a_nil)) a_nil)))) a_nil))) rfl rfl rfl rfl rfl)
    (a_of (x_one (x_fld 0 hF.at_ rfl (s_var 2)))))))

abbrev st_Beside___init__ : Stmt := (inClass (top 40) 0)
abbrev N_Beside___init__ : List Str := ["self", "parts", "needed"]
theorem sc_Beside___init__ : ScS N_Beside___init__ ["self", "parts", "needed"] (defScope st_Beside___init__) := ⟨rfl, rfl, rfl, by decide +kernel, rfl, by decide +kernel, by decide +kernel, by decide +kernel⟩
noncomputable def b_Beside___init__ (Γ : Gam) : Fs := (sSeq (sFldS Tx.ats 0 "parts" (eCall 1 (Γ.f 5) [] (aCons (eVar 1) aNil)))
    (sSeq (sIf (tOrr (tNt (tTru (eCall 1 (Γ.f 0) [] (aCons (eVar 2) aNil)))) (tNt (tBl (eChain (cmpI fun i j => decide (i ≤ j)) (cmpI fun i j => decide (i ≤ j)) (eC (.int 1)) (rVar 2) (eBlt lenW (aCons (op1 (fldW Tx.ats "parts") (rVar 0)) aNil)))))) (fun _ _ => .bad) sNil)
    (sSeq (sSup "Beside" 4 (Γ.i 10) (aCons (eC (.str "beside")) (aCons (op1 (fldW Tx.ats "parts") (rVar 0)) (aCons (eCall 3 (Γ.f 6) [] (aCons (jsW [(eC (.str "beside ")), (op1 fmtW (rVar 2))] Str.empty) (aCons (op1 (fldW Tx.ats "parts") (rVar 0)) (aCons (eTup (aCons (eC (.str "end")) aNil)) aNil)))) aNil))))
    (sFldS Tx.ats 0 "needed" (eVar 2)))))
theorem d_Beside___init__ {P : Program} {w : World} {K : PySem.W.Frag} {mg : Str → Option Value} {base : Heap} {cl : Str → Addr} {k : Nat} {Γ : Gam} {qual x : Str} {f cda cc : Addr} {fd : FuncData} {A : Around} {outer : List Env} {s : Shared} {H : Hp} {E : XK} {B : Bs} (hF : Fx K mg cl Tx) (hX : Ox K cl Tt) (hI : GetT K cl Tt) (hH : Hy P w K mg base cl (4 * k) Tx Γ)
    (Fs : FunS P K x qual (defArgs st_Beside___init__) (defBody st_Beside___init__) (defScope st_Beside___init__) f fd cc (cl "Beside") cda) (SI : SupI P w K mg base cl (4 * k) "Beside" 4 (Γ.i 10))
    (h : Ctx (cxS (CX P w) P w K mg base N_Beside___init__ qual (defScope st_Beside___init__) f cda cc A outer s H E) (fun cls d _ H => E cls d H) (4 * k + 3)) : SXA ⟨K, cl⟩ (cxS (CX P w) P w K mg base N_Beside___init__ qual (defScope st_Beside___init__) f cda cc A outer s H E) (fun cls d _ H => E cls d H) B (.func (defBody st_Beside___init__) (envS qual (defScope st_Beside___init__) s.heap.objs.size f cda cc)) (defBody st_Beside___init__) (b_Beside___init__ Γ) :=
  (a_step (a_one (x_fld 0 hF.at_ rfl (s_call (hH.fnAt 5) (h.hr.mono (by omega)) h.tk (a_cons (s_var 1) a_nil))))
    (a_step (a_one (x_if (PW.pt (t_or (t_not (t_truth (SE.rd (s_call (hH.fnAt 0) (h.hr.mono (by omega)) h.tk (a_cons (s_var 2) a_nil))))) (t_or1 (t_not (t_chain o_le o_le (SE.rd s_int) (s_rvar 2) (SE.rd (s_len (SE.rd (s_fld hF.at_ rfl (s_rvar 0))) (hF.nog.at 0)))))))) (x_one x_bad) x_nil))
    (a_step (a_super Fs SI (h.hr.mono (by omega)) h.tk (a_cons s_str (a_cons (s_fld hF.at_ rfl (s_rvar 0)) (a_cons (s_call (hH.fnAt 6) (h.hr.mono (by omega)) h.tk (a_cons (s_js (SJ.cons s_str (SJ.cons (s_fmt (s_rvar 2)) SJ.nil))) (a_cons (s_fld hF.at_ rfl (s_rvar 0)) (a_cons (s_tup (a_cons s_str a_nil)) a_nil)))) a_nil))) rfl rfl rfl rfl rfl)
    (a_of (x_one (x_fld 0 hF.at_ rfl (s_var 2)))))))

abbrev st_Again___init__ : Stmt := (inClass (top 41) 0)
abbrev N_Again___init__ : List Str := ["self", "part", "rounds"]
theorem sc_Again___init__ : ScS N_Again___init__ ["self", "part", "rounds"] (defScope st_Again___init__) := ⟨rfl, rfl, rfl, by decide +kernel, rfl, by decide +kernel, by decide +kernel, by decide +kernel⟩
noncomputable def b_Again___init__ (Γ : Gam) : Fs := (sSeq (sExp (eCall 1 (Γ.f 4) [] (aCons (eVar 1) aNil)))
    (sSeq (sIf (tAn (tBl (op2 notNW (rVar 2) (eC .non))) (tOrr (tNt (tTru (eCall 1 (Γ.f 0) [] (aCons (eVar 2) aNil)))) (tBl (op2 (cmpI fun i j => decide (i < j)) (rVar 2) (eC (.int 1)))))) (fun _ _ => .bad) sNil)
    (sSeq (sSup "Again" 4 (Γ.i 10) (aCons (eC (.str "again")) (aCons (eTup (aCons (eVar 1) aNil)) (aCons (eCall 3 (Γ.f 6) [.tup []] (aCons (eIf (tBl (op2 isNW (rVar 2) (eC .non))) (eC (.str "again")) (jsW [(eC (.str "again ")), (op1 fmtW (rVar 2))] Str.empty)) (aCons (eTup (aCons (eVar 1) aNil)) aNil))) aNil))))
    (sSeq (sFldS Tx.ats 0 "part" (eVar 1))
    (sFldS Tx.ats 0 "rounds" (eVar 2))))))
theorem d_Again___init__ {P : Program} {w : World} {K : PySem.W.Frag} {mg : Str → Option Value} {base : Heap} {cl : Str → Addr} {k : Nat} {Γ : Gam} {qual x : Str} {f cda cc : Addr} {fd : FuncData} {A : Around} {outer : List Env} {s : Shared} {H : Hp} {E : XK} {B : Bs} (hF : Fx K mg cl Tx) (hX : Ox K cl Tt) (hI : GetT K cl Tt) (hH : Hy P w K mg base cl (4 * k) Tx Γ)
    (Fs : FunS P K x qual (defArgs st_Again___init__) (defBody st_Again___init__) (defScope st_Again___init__) f fd cc (cl "Again") cda) (SI : SupI P w K mg base cl (4 * k) "Again" 4 (Γ.i 10))
    (h : Ctx (cxS (CX P w) P w K mg base N_Again___init__ qual (defScope st_Again___init__) f cda cc A outer s H E) (fun cls d _ H => E cls d H) (4 * k + 3)) : SXA ⟨K, cl⟩ (cxS (CX P w) P w K mg base N_Again___init__ qual (defScope st_Again___init__) f cda cc A outer s H E) (fun cls d _ H => E cls d H) B (.func (defBody st_Again___init__) (envS qual (defScope st_Again___init__) s.heap.objs.size f cda cc)) (defBody st_Again___init__) (b_Again___init__ Γ) :=
  (a_step (a_one (x_expr (s_call (hH.fnAt 4) (h.hr.mono (by omega)) h.tk (a_cons (s_var 1) a_nil))))
    (a_step (a_one (x_if (PW.pt (t_and (t_of_cmp o_notN (s_rvar 2) (SE.rd s_non)) (t_and1 (PW.pt (t_or (t_not (t_truth (SE.rd (s_call (hH.fnAt 0) (h.hr.mono (by omega)) h.tk (a_cons (s_var 2) a_nil))))) (t_or1 (t_of_cmp o_lt (s_rvar 2) (SE.rd s_int)))))))) (x_one x_bad) x_nil))
    (a_step (a_super Fs SI (h.hr.mono (by omega)) h.tk (a_cons s_str (a_cons (s_tup (a_cons (s_var 1) a_nil)) (a_cons (s_call (hH.fnAt 7) (h.hr.mono (by omega)) h.tk (a_cons (s_if (t_of_cmp o_isN (s_rvar 2) (SE.rd s_non)) s_str (s_js (SJ.cons s_str (SJ.cons (s_fmt (s_rvar 2)) SJ.nil)))) (a_cons (s_tup (a_cons (s_var 1) a_nil)) a_nil))) a_nil))) rfl rfl rfl rfl rfl)
    (a_of (x_cons (x_fld 0 hF.at_ rfl (s_var 1))
    (x_one (x_fld 0 hF.at_ rfl (s_var 2))))))))

abbrev st_While___init__ : Stmt := (inClass (top 42) 0)
abbrev N_While___init__ : List Str := ["self", "question", "part"]
theorem sc_While___init__ : ScS N_While___init__ ["self", "question", "part"] (defScope st_While___init__) := ⟨rfl, rfl, rfl, by decide +kernel, rfl, by decide +kernel, by decide +kernel, by decide +kernel⟩
noncomputable def b_While___init__ (Γ : Gam) : Fs := (sSeq (sExp (eCall 2 (Γ.f 3) [] (aCons (eVar 1) (aCons (eC (.str "question")) aNil))))
    (sSeq (sExp (eCall 1 (Γ.f 4) [] (aCons (eVar 2) aNil)))
    (sSeq (sSup "While" 4 (Γ.i 10) (aCons (eC (.str "while")) (aCons (eTup (aCons (eVar 2) aNil)) (aCons (eCall 3 (Γ.f 6) [.tup []] (aCons (jsW [(eC (.str "while ")), (op1 fmtW (rVar 1))] Str.empty) (aCons (eTup (aCons (eVar 2) aNil)) aNil))) aNil))))
    (sSeq (sFldS Tx.ats 0 "question" (eVar 1))
    (sFldS Tx.ats 0 "part" (eVar 2))))))
theorem d_While___init__ {P : Program} {w : World} {K : PySem.W.Frag} {mg : Str → Option Value} {base : Heap} {cl : Str → Addr} {k : Nat} {Γ : Gam} {qual x : Str} {f cda cc : Addr} {fd : FuncData} {A : Around} {outer : List Env} {s : Shared} {H : Hp} {E : XK} {B : Bs} (hF : Fx K mg cl Tx) (hX : Ox K cl Tt) (hI : GetT K cl Tt) (hH : Hy P w K mg base cl (4 * k) Tx Γ)
    (Fs : FunS P K x qual (defArgs st_While___init__) (defBody st_While___init__) (defScope st_While___init__) f fd cc (cl "While") cda) (SI : SupI P w K mg base cl (4 * k) "While" 4 (Γ.i 10))
    (h : Ctx (cxS (CX P w) P w K mg base N_While___init__ qual (defScope st_While___init__) f cda cc A outer s H E) (fun cls d _ H => E cls d H) (4 * k + 3)) : SXA ⟨K, cl⟩ (cxS (CX P w) P w K mg base N_While___init__ qual (defScope st_While___init__) f cda cc A outer s H E) (fun cls d _ H => E cls d H) B (.func (defBody st_While___init__) (envS qual (defScope st_While___init__) s.heap.objs.size f cda cc)) (defBody st_While___init__) (b_While___init__ Γ) :=
  (a_step (a_one (x_expr (s_call (hH.fnAt 3) (h.hr.mono (by omega)) h.tk (a_cons (s_var 1) (a_cons s_str a_nil)))))
    (a_step (a_one (x_expr (s_call (hH.fnAt 4) (h.hr.mono (by omega)) h.tk (a_cons (s_var 2) a_nil))))
    (a_step (a_super Fs SI (h.hr.mono (by omega)) h.tk (a_cons s_str (a_cons (s_tup (a_cons (s_var 2) a_nil)) (a_cons (s_call (hH.fnAt 7) (h.hr.mono (by omega)) h.tk (a_cons (s_js (SJ.cons s_str (SJ.cons (s_fmt (s_rvar 1)) SJ.nil))) (a_cons (s_tup (a_cons (s_var 2) a_nil)) a_nil))) a_nil))) rfl rfl rfl rfl rfl)
    (a_of (x_cons (x_fld 0 hF.at_ rfl (s_var 1))
    (x_one (x_fld 0 hF.at_ rfl (s_var 2))))))))

abbrev st_If___init__ : Stmt := (inClass (top 43) 0)
abbrev N_If___init__ : List Str := ["self", "question", "part"]
theorem sc_If___init__ : ScS N_If___init__ ["self", "question", "part"] (defScope st_If___init__) := ⟨rfl, rfl, rfl, by decide +kernel, rfl, by decide +kernel, by decide +kernel, by decide +kernel⟩
noncomputable def b_If___init__ (Γ : Gam) : Fs := (sSeq (sExp (eCall 2 (Γ.f 3) [] (aCons (eVar 1) (aCons (eC (.str "question")) aNil))))
    (sSeq (sExp (eCall 1 (Γ.f 4) [] (aCons (eVar 2) aNil)))
    (sSeq (sSup "If" 4 (Γ.i 10) (aCons (eC (.str "if")) (aCons (eTup (aCons (eVar 2) aNil)) (aCons (eCall 3 (Γ.f 6) [.tup []] (aCons (jsW [(eC (.str "if ")), (op1 fmtW (rVar 1))] Str.empty) (aCons (eTup (aCons (eVar 2) aNil)) aNil))) aNil))))
    (sSeq (sFldS Tx.ats 0 "question" (eVar 1))
    (sFldS Tx.ats 0 "part" (eVar 2))))))
theorem d_If___init__ {P : Program} {w : World} {K : PySem.W.Frag} {mg : Str → Option Value} {base : Heap} {cl : Str → Addr} {k : Nat} {Γ : Gam} {qual x : Str} {f cda cc : Addr} {fd : FuncData} {A : Around} {outer : List Env} {s : Shared} {H : Hp} {E : XK} {B : Bs} (hF : Fx K mg cl Tx) (hX : Ox K cl Tt) (hI : GetT K cl Tt) (hH : Hy P w K mg base cl (4 * k) Tx Γ)
    (Fs : FunS P K x qual (defArgs st_If___init__) (defBody st_If___init__) (defScope st_If___init__) f fd cc (cl "If") cda) (SI : SupI P w K mg base cl (4 * k) "If" 4 (Γ.i 10))
    (h : Ctx (cxS (CX P w) P w K mg base N_If___init__ qual (defScope st_If___init__) f cda cc A outer s H E) (fun cls d _ H => E cls d H) (4 * k + 3)) : SXA ⟨K, cl⟩ (cxS (CX P w) P w K mg base N_If___init__ qual (defScope st_If___init__) f cda cc A outer s H E) (fun cls d _ H => E cls d H) B (.func (defBody st_If___init__) (envS qual (defScope st_If___init__) s.heap.objs.size f cda cc)) (defBody st_If___init__) (b_If___init__ Γ) :=
  (a_step (a_one (x_expr (s_call (hH.fnAt 3) (h.hr.mono (by omega)) h.tk (a_cons (s_var 1) (a_cons s_str a_nil)))))
    (a_step (a_one (x_expr (s_call (hH.fnAt 4) (h.hr.mono (by omega)) h.tk (a_cons (s_var 2) a_nil))))
    (a_step (a_super Fs SI (h.hr.mono (by omega)) h.tk (a_cons s_str (a_cons (s_tup (a_cons (s_var 2) a_nil)) (a_cons (s_call (hH.fnAt 7) (h.hr.mono (by omega)) h.tk (a_cons (s_js (SJ.cons s_str (SJ.cons (s_fmt (s_rvar 1)) SJ.nil))) (a_cons (s_tup (a_cons (s_var 2) a_nil)) a_nil))) a_nil))) rfl rfl rfl rfl rfl)
    (a_of (x_cons (x_fld 0 hF.at_ rfl (s_var 1))
    (x_one (x_fld 0 hF.at_ rfl (s_var 2))))))))

abbrev st_Not___init__ : Stmt := (inClass (top 44) 0)
abbrev N_Not___init__ : List Str := ["self", "part"]
theorem sc_Not___init__ : ScS N_Not___init__ ["self", "part"] (defScope st_Not___init__) := ⟨rfl, rfl, rfl, by decide +kernel, rfl, by decide +kernel, by decide +kernel, by decide +kernel⟩
noncomputable def b_Not___init__ (Γ : Gam) : Fs := (sSeq (sExp (eCall 1 (Γ.f 4) [] (aCons (eVar 1) aNil)))
    (sSeq (sSup "Not" 4 (Γ.i 10) (aCons (eC (.str "not")) (aCons (eTup (aCons (eVar 1) aNil)) (aCons (eCall 3 (Γ.f 6) [.tup []] (aCons (eC (.str "not")) (aCons (eTup (aCons (eVar 1) aNil)) aNil))) aNil))))
    (sFldS Tx.ats 0 "part" (eVar 1))))
theorem d_Not___init__ {P : Program} {w : World} {K : PySem.W.Frag} {mg : Str → Option Value} {base : Heap} {cl : Str → Addr} {k : Nat} {Γ : Gam} {qual x : Str} {f cda cc : Addr} {fd : FuncData} {A : Around} {outer : List Env} {s : Shared} {H : Hp} {E : XK} {B : Bs} (hF : Fx K mg cl Tx) (hX : Ox K cl Tt) (hI : GetT K cl Tt) (hH : Hy P w K mg base cl (4 * k) Tx Γ)
    (Fs : FunS P K x qual (defArgs st_Not___init__) (defBody st_Not___init__) (defScope st_Not___init__) f fd cc (cl "Not") cda) (SI : SupI P w K mg base cl (4 * k) "Not" 4 (Γ.i 10))
    (h : Ctx (cxS (CX P w) P w K mg base N_Not___init__ qual (defScope st_Not___init__) f cda cc A outer s H E) (fun cls d _ H => E cls d H) (4 * k + 3)) : SXA ⟨K, cl⟩ (cxS (CX P w) P w K mg base N_Not___init__ qual (defScope st_Not___init__) f cda cc A outer s H E) (fun cls d _ H => E cls d H) B (.func (defBody st_Not___init__) (envS qual (defScope st_Not___init__) s.heap.objs.size f cda cc)) (defBody st_Not___init__) (b_Not___init__ Γ) :=
  (a_step (a_one (x_expr (s_call (hH.fnAt 4) (h.hr.mono (by omega)) h.tk (a_cons (s_var 1) a_nil))))
    (a_step (a_super Fs SI (h.hr.mono (by omega)) h.tk (a_cons s_str (a_cons (s_tup (a_cons (s_var 1) a_nil)) (a_cons (s_call (hH.fnAt 7) (h.hr.mono (by omega)) h.tk (a_cons s_str (a_cons (s_tup (a_cons (s_var 1) a_nil)) a_nil))) a_nil))) rfl rfl rfl rfl rfl)
    (a_of (x_one (x_fld 0 hF.at_ rfl (s_var 1))))))

abbrev st_Always___init__ : Stmt := (inClass (top 45) 0)
abbrev N_Always___init__ : List Str := ["self", "word", "part"]
theorem sc_Always___init__ : ScS N_Always___init__ ["self", "word", "part"] (defScope st_Always___init__) := ⟨rfl, rfl, rfl, by decide +kernel, rfl, by decide +kernel, by decide +kernel, by decide +kernel⟩
noncomputable def b_Always___init__ (Γ : Gam) : Fs := (sSeq (sIf (tOrr (tNt (tTru (eBlt (isiW Tx.tc Tx.kt) (aCons (rVar 1) (aCons (eC (.ty "str")) aNil))))) (tBl (op2 ninW (rVar 1) (eTup (aCons (eC (.str "well")) (aCons (eC (.str "ill")) aNil)))))) (fun _ _ => .bad) sNil)
    (sSeq (sExp (eCall 1 (Γ.f 4) [] (aCons (eVar 2) aNil)))
    (sSeq (sSup "Always" 4 (Γ.i 10) (aCons (eC (.str "always")) (aCons (eTup (aCons (eVar 2) aNil)) (aCons (eCall 3 (Γ.f 6) [.tup []] (aCons (jsW [(eC (.str "always ")), (op1 fmtW (rVar 1))] Str.empty) (aCons (eTup (aCons (eVar 2) aNil)) aNil))) aNil))))
    (sSeq (sFldS Tx.ats 0 "word" (eVar 1))
    (sFldS Tx.ats 0 "part" (eVar 2))))))
theorem d_Always___init__ {P : Program} {w : World} {K : PySem.W.Frag} {mg : Str → Option Value} {base : Heap} {cl : Str → Addr} {k : Nat} {Γ : Gam} {qual x : Str} {f cda cc : Addr} {fd : FuncData} {A : Around} {outer : List Env} {s : Shared} {H : Hp} {E : XK} {B : Bs} (hF : Fx K mg cl Tx) (hX : Ox K cl Tt) (hI : GetT K cl Tt) (hH : Hy P w K mg base cl (4 * k) Tx Γ)
    (Fs : FunS P K x qual (defArgs st_Always___init__) (defBody st_Always___init__) (defScope st_Always___init__) f fd cc (cl "Always") cda) (SI : SupI P w K mg base cl (4 * k) "Always" 4 (Γ.i 10))
    (h : Ctx (cxS (CX P w) P w K mg base N_Always___init__ qual (defScope st_Always___init__) f cda cc A outer s H E) (fun cls d _ H => E cls d H) (4 * k + 3)) : SXA ⟨K, cl⟩ (cxS (CX P w) P w K mg base N_Always___init__ qual (defScope st_Always___init__) f cda cc A outer s H E) (fun cls d _ H => E cls d H) B (.func (defBody st_Always___init__) (envS qual (defScope st_Always___init__) s.heap.objs.size f cda cc)) (defBody st_Always___init__) (b_Always___init__ Γ) :=
  (a_step (a_one (x_if (PW.pt (t_or (t_not (t_truth (SE.rd (s_isi hF 12 (s_rvar 1) (SE.rd (s_ty (hF.nog.at 7) (by kernel_rfl))))))) (t_or1 (t_of_cmp o_nin (s_rvar 1) (SE.rd (s_tup (a_cons s_str (a_cons s_str a_nil)))))))) (x_one x_bad) x_nil))
    (a_step (a_one (x_expr (s_call (hH.fnAt 4) (h.hr.mono (by omega)) h.tk (a_cons (s_var 2) a_nil))))
    (a_step (a_super Fs SI (h.hr.mono (by omega)) h.tk (a_cons s_str (a_cons (s_tup (a_cons (s_var 2) a_nil)) (a_cons (s_call (hH.fnAt 7) (h.hr.mono (by omega)) h.tk (a_cons (s_js (SJ.cons s_str (SJ.cons (s_fmt (s_rvar 1)) SJ.nil))) (a_cons (s_tup (a_cons (s_var 2) a_nil)) a_nil))) a_nil))) rfl rfl rfl rfl rfl)
    (a_of (x_cons (x_fld 0 hF.at_ rfl (s_var 1))
    (x_one (x_fld 0 hF.at_ rfl (s_var 2))))))))

noncomputable def Gs (Γ : Gam) : Gam where
  f := fun j => match j with
    | 0 => runB N_is_integer.length (b_is_integer Γ)
    | 1 => runB N_is_name.length (b_is_name Γ)
    | 2 => runB N_is_sequence.length (b_is_sequence Γ)
    | 3 => runB N_need_name.length (b_need_name Γ)
    | 4 => runB N_need_part.length (b_need_part Γ)
    | 5 => runB N_checked_parts.length (b_checked_parts Γ)
    | 6 => runB N_lines_of.length (b_lines_of Γ)
    | 7 => runB N__law_deal.length (b__law_deal Γ)
    | 8 => runB N__law_draw.length (b__law_draw Γ)
    | 9 => runB N__law_pick.length (b__law_pick Γ)
    | 10 => runB N__law_name.length (b__law_name Γ)
    | 11 => runB N__law_kids.length (b__law_kids Γ)
    | 12 => runB N__law_grown.length (b__law_grown Γ)
    | 13 => runB N__law_blocks.length (b__law_blocks Γ)
    | 14 => runB N__law_head.length (b__law_head Γ)
    | 15 => runB N__law_script.length (b__law_script Γ)
    | 16 => runB N__law_nodes.length (b__law_nodes Γ)
    | 17 => runB N__law_make.length (b__law_make Γ)
    | 18 => runB N__law_ends.length (b__law_ends Γ)
    | 19 => runB N_law.length (b_law Γ)
    | _ => fun _ => bad
  i := fun j => match j with
    | 0 => runI N_Do___init__.length (b_Do___init__ Γ)
    | 1 => runI N_Ask___init__.length (b_Ask___init__ Γ)
    | 2 => runI N_Row___init__.length (b_Row___init__ Γ)
    | 3 => runI N_First___init__.length (b_First___init__ Γ)
    | 4 => runI N_Beside___init__.length (b_Beside___init__ Γ)
    | 5 => runI N_Again___init__.length (b_Again___init__ Γ)
    | 6 => runI N_While___init__.length (b_While___init__ Γ)
    | 7 => runI N_If___init__.length (b_If___init__ Γ)
    | 8 => runI N_Not___init__.length (b_Not___init__ Γ)
    | 9 => runI N_Always___init__.length (b_Always___init__ Γ)
    | 10 => runI N_Tree___init__.length (b_Tree___init__ Γ)
    | _ => fun _ _ => bad
  m := fun j => match j with
    | 0 => fun _ => runB N_Tree___add__.length (b_Tree___add__ Γ)
    | 1 => fun _ => runB N_Tree___or__.length (b_Tree___or__ Γ)
    | 2 => fun _ => runB N_Tree___and__.length (b_Tree___and__ Γ)
    | 3 => fun _ => runB N_Tree___mul__.length (b_Tree___mul__ Γ)
    | 4 => fun _ => runB N_Tree___invert__.length (b_Tree___invert__ Γ)
    | 5 => fun _ => runB N_Tree___eq__.length (b_Tree___eq__ Γ)
    | 6 => fun _ => runB N_Tree___str__.length (b_Tree___str__ Γ)
    | 7 => fun _ => runB N_Tree___len__.length (b_Tree___len__ Γ)
    | 8 => fun _ => runB N_Tree___getitem__.length (b_Tree___getitem__ Γ)
    | 9 => fun _ => runB N_Tree_put.length (b_Tree_put Γ)
    | 10 => fun C => if C = "Do" then runB N_Tree_anew.length (b_Tree_anew Γ) else if C = "Ask" then runB N_Tree_anew.length (b_Tree_anew Γ) else if C = "Row" then runB N_Row_anew.length (b_Row_anew Γ) else if C = "First" then runB N_First_anew.length (b_First_anew Γ) else if C = "Beside" then runB N_Beside_anew.length (b_Beside_anew Γ) else if C = "Again" then runB N_Again_anew.length (b_Again_anew Γ) else if C = "While" then runB N_While_anew.length (b_While_anew Γ) else if C = "If" then runB N_If_anew.length (b_If_anew Γ) else if C = "Not" then runB N_Not_anew.length (b_Not_anew Γ) else if C = "Always" then runB N_Always_anew.length (b_Always_anew Γ) else fun _ => bad
    | _ => fun _ _ => bad
noncomputable def Sv : Nat → Gam
  | 0 => ⟨fun _ _ => bad, fun _ _ _ => bad, fun _ _ _ => bad⟩
  | k + 1 => Gs (Sv k)
theorem Sf_is_integer (k : Nat) : (Sv (k + 1)).f 0 = runB N_is_integer.length (b_is_integer (Sv k)) := rfl
theorem Sf_is_name (k : Nat) : (Sv (k + 1)).f 1 = runB N_is_name.length (b_is_name (Sv k)) := rfl
theorem Sf_is_sequence (k : Nat) : (Sv (k + 1)).f 2 = runB N_is_sequence.length (b_is_sequence (Sv k)) := rfl
theorem Sf_need_name (k : Nat) : (Sv (k + 1)).f 3 = runB N_need_name.length (b_need_name (Sv k)) := rfl
theorem Sf_need_part (k : Nat) : (Sv (k + 1)).f 4 = runB N_need_part.length (b_need_part (Sv k)) := rfl
theorem Sf_checked_parts (k : Nat) : (Sv (k + 1)).f 5 = runB N_checked_parts.length (b_checked_parts (Sv k)) := rfl
theorem Sf_lines_of (k : Nat) : (Sv (k + 1)).f 6 = runB N_lines_of.length (b_lines_of (Sv k)) := rfl
theorem Sf__law_deal (k : Nat) : (Sv (k + 1)).f 7 = runB N__law_deal.length (b__law_deal (Sv k)) := rfl
theorem Sf__law_draw (k : Nat) : (Sv (k + 1)).f 8 = runB N__law_draw.length (b__law_draw (Sv k)) := rfl
theorem Sf__law_pick (k : Nat) : (Sv (k + 1)).f 9 = runB N__law_pick.length (b__law_pick (Sv k)) := rfl
theorem Sf__law_name (k : Nat) : (Sv (k + 1)).f 10 = runB N__law_name.length (b__law_name (Sv k)) := rfl
theorem Sf__law_kids (k : Nat) : (Sv (k + 1)).f 11 = runB N__law_kids.length (b__law_kids (Sv k)) := rfl
theorem Sf__law_grown (k : Nat) : (Sv (k + 1)).f 12 = runB N__law_grown.length (b__law_grown (Sv k)) := rfl
theorem Sf__law_blocks (k : Nat) : (Sv (k + 1)).f 13 = runB N__law_blocks.length (b__law_blocks (Sv k)) := rfl
theorem Sf__law_head (k : Nat) : (Sv (k + 1)).f 14 = runB N__law_head.length (b__law_head (Sv k)) := rfl
theorem Sf__law_script (k : Nat) : (Sv (k + 1)).f 15 = runB N__law_script.length (b__law_script (Sv k)) := rfl
theorem Sf__law_nodes (k : Nat) : (Sv (k + 1)).f 16 = runB N__law_nodes.length (b__law_nodes (Sv k)) := rfl
theorem Sf__law_make (k : Nat) : (Sv (k + 1)).f 17 = runB N__law_make.length (b__law_make (Sv k)) := rfl
theorem Sf__law_ends (k : Nat) : (Sv (k + 1)).f 18 = runB N__law_ends.length (b__law_ends (Sv k)) := rfl
theorem Sf_law (k : Nat) : (Sv (k + 1)).f 19 = runB N_law.length (b_law (Sv k)) := rfl
theorem Si_Do (k : Nat) : (Sv (k + 1)).i 0 = runI N_Do___init__.length (b_Do___init__ (Sv k)) := rfl
theorem Si_Ask (k : Nat) : (Sv (k + 1)).i 1 = runI N_Ask___init__.length (b_Ask___init__ (Sv k)) := rfl
theorem Si_Row (k : Nat) : (Sv (k + 1)).i 2 = runI N_Row___init__.length (b_Row___init__ (Sv k)) := rfl
theorem Si_First (k : Nat) : (Sv (k + 1)).i 3 = runI N_First___init__.length (b_First___init__ (Sv k)) := rfl
theorem Si_Beside (k : Nat) : (Sv (k + 1)).i 4 = runI N_Beside___init__.length (b_Beside___init__ (Sv k)) := rfl
theorem Si_Again (k : Nat) : (Sv (k + 1)).i 5 = runI N_Again___init__.length (b_Again___init__ (Sv k)) := rfl
theorem Si_While (k : Nat) : (Sv (k + 1)).i 6 = runI N_While___init__.length (b_While___init__ (Sv k)) := rfl
theorem Si_If (k : Nat) : (Sv (k + 1)).i 7 = runI N_If___init__.length (b_If___init__ (Sv k)) := rfl
theorem Si_Not (k : Nat) : (Sv (k + 1)).i 8 = runI N_Not___init__.length (b_Not___init__ (Sv k)) := rfl
theorem Si_Always (k : Nat) : (Sv (k + 1)).i 9 = runI N_Always___init__.length (b_Always___init__ (Sv k)) := rfl
theorem Si_Tree (k : Nat) : (Sv (k + 1)).i 10 = runI N_Tree___init__.length (b_Tree___init__ (Sv k)) := rfl
theorem Sm___add__ (k : Nat) (C : Str) : (Sv (k + 1)).m 0 C = runB N_Tree___add__.length (b_Tree___add__ (Sv k)) := rfl
theorem Sm___or__ (k : Nat) (C : Str) : (Sv (k + 1)).m 1 C = runB N_Tree___or__.length (b_Tree___or__ (Sv k)) := rfl
theorem Sm___and__ (k : Nat) (C : Str) : (Sv (k + 1)).m 2 C = runB N_Tree___and__.length (b_Tree___and__ (Sv k)) := rfl
theorem Sm___mul__ (k : Nat) (C : Str) : (Sv (k + 1)).m 3 C = runB N_Tree___mul__.length (b_Tree___mul__ (Sv k)) := rfl
theorem Sm___invert__ (k : Nat) (C : Str) : (Sv (k + 1)).m 4 C = runB N_Tree___invert__.length (b_Tree___invert__ (Sv k)) := rfl
theorem Sm___eq__ (k : Nat) (C : Str) : (Sv (k + 1)).m 5 C = runB N_Tree___eq__.length (b_Tree___eq__ (Sv k)) := rfl
theorem Sm___str__ (k : Nat) (C : Str) : (Sv (k + 1)).m 6 C = runB N_Tree___str__.length (b_Tree___str__ (Sv k)) := rfl
theorem Sm___len__ (k : Nat) (C : Str) : (Sv (k + 1)).m 7 C = runB N_Tree___len__.length (b_Tree___len__ (Sv k)) := rfl
theorem Sm___getitem__ (k : Nat) (C : Str) : (Sv (k + 1)).m 8 C = runB N_Tree___getitem__.length (b_Tree___getitem__ (Sv k)) := rfl
theorem Sm_put (k : Nat) (C : Str) : (Sv (k + 1)).m 9 C = runB N_Tree_put.length (b_Tree_put (Sv k)) := rfl
theorem Gm_anew_Do (Γ : Gam) : (Gs Γ).m 10 "Do" = runB N_Tree_anew.length (b_Tree_anew Γ) := by rfl
theorem Gm_anew_Ask (Γ : Gam) : (Gs Γ).m 10 "Ask" = runB N_Tree_anew.length (b_Tree_anew Γ) := by rfl
theorem Gm_anew_Row (Γ : Gam) : (Gs Γ).m 10 "Row" = runB N_Row_anew.length (b_Row_anew Γ) := by rfl
theorem Gm_anew_First (Γ : Gam) : (Gs Γ).m 10 "First" = runB N_First_anew.length (b_First_anew Γ) := by rfl
theorem Gm_anew_Beside (Γ : Gam) : (Gs Γ).m 10 "Beside" = runB N_Beside_anew.length (b_Beside_anew Γ) := by rfl
theorem Gm_anew_Again (Γ : Gam) : (Gs Γ).m 10 "Again" = runB N_Again_anew.length (b_Again_anew Γ) := by rfl
theorem Gm_anew_While (Γ : Gam) : (Gs Γ).m 10 "While" = runB N_While_anew.length (b_While_anew Γ) := by rfl
theorem Gm_anew_If (Γ : Gam) : (Gs Γ).m 10 "If" = runB N_If_anew.length (b_If_anew Γ) := by rfl
theorem Gm_anew_Not (Γ : Gam) : (Gs Γ).m 10 "Not" = runB N_Not_anew.length (b_Not_anew Γ) := by rfl
theorem Gm_anew_Always (Γ : Gam) : (Gs Γ).m 10 "Always" = runB N_Always_anew.length (b_Always_anew Γ) := by rfl
theorem Sm_anew_Do (k : Nat) : (Sv (k + 1)).m 10 "Do" = runB N_Tree_anew.length (b_Tree_anew (Sv k)) := rfl
theorem Sm_anew_Ask (k : Nat) : (Sv (k + 1)).m 10 "Ask" = runB N_Tree_anew.length (b_Tree_anew (Sv k)) := rfl
theorem Sm_anew_Row (k : Nat) : (Sv (k + 1)).m 10 "Row" = runB N_Row_anew.length (b_Row_anew (Sv k)) := rfl
theorem Sm_anew_First (k : Nat) : (Sv (k + 1)).m 10 "First" = runB N_First_anew.length (b_First_anew (Sv k)) := rfl
theorem Sm_anew_Beside (k : Nat) : (Sv (k + 1)).m 10 "Beside" = runB N_Beside_anew.length (b_Beside_anew (Sv k)) := rfl
theorem Sm_anew_Again (k : Nat) : (Sv (k + 1)).m 10 "Again" = runB N_Again_anew.length (b_Again_anew (Sv k)) := rfl
theorem Sm_anew_While (k : Nat) : (Sv (k + 1)).m 10 "While" = runB N_While_anew.length (b_While_anew (Sv k)) := rfl
theorem Sm_anew_If (k : Nat) : (Sv (k + 1)).m 10 "If" = runB N_If_anew.length (b_If_anew (Sv k)) := rfl
theorem Sm_anew_Not (k : Nat) : (Sv (k + 1)).m 10 "Not" = runB N_Not_anew.length (b_Not_anew (Sv k)) := rfl
theorem Sm_anew_Always (k : Nat) : (Sv (k + 1)).m 10 "Always" = runB N_Always_anew.length (b_Always_anew (Sv k)) := rfl

end Sm

namespace Sm
open PySem PySem.Spec PyProof.Rows L2
def etB (K : PySem.W.Frag) : Bool := match K.lookup (He.dflAt ("lines_of", none) 0 K) with
  | some ⟨.type c, _, .seq its _, _⟩ => c == "tuple" && its.size == 0
  | _ => false
structure Oks (P : Program) (w : World) (K : PySem.W.Frag) (mg : Str → Option Value) (base : Heap) (k : Nat) (Γ : Gam) : Prop where
  o0 : ∀ fd, FunD K "is_integer" "is_integer" (defArgs st_is_integer) (defBody st_is_integer) (defScope st_is_integer) ([]) [] (He.fAd K ("is_integer", none)) fd → FnOk P w K mg base (CX P w) k (He.fAd K ("is_integer", none)) fd ["value"] (spF ⟨K, He.ga K⟩ 1 (Γ.f 0))
  o1 : ∀ fd, FunD K "is_name" "is_name" (defArgs st_is_name) (defBody st_is_name) (defScope st_is_name) ([]) [] (He.fAd K ("is_name", none)) fd → FnOk P w K mg base (CX P w) k (He.fAd K ("is_name", none)) fd ["value"] (spF ⟨K, He.ga K⟩ 1 (Γ.f 1))
  o2 : ∀ fd, FunD K "is_sequence" "is_sequence" (defArgs st_is_sequence) (defBody st_is_sequence) (defScope st_is_sequence) ([]) [] (He.fAd K ("is_sequence", none)) fd → FnOk P w K mg base (CX P w) k (He.fAd K ("is_sequence", none)) fd ["value"] (spF ⟨K, He.ga K⟩ 1 (Γ.f 2))
  o3 : ∀ fd, FunD K "need_name" "need_name" (defArgs st_need_name) (defBody st_need_name) (defScope st_need_name) ([]) [] (He.fAd K ("need_name", none)) fd → FnOk P w K mg base (CX P w) k (He.fAd K ("need_name", none)) fd ["value", "word"] (spF ⟨K, He.ga K⟩ 2 (Γ.f 3))
  o4 : ∀ fd, FunD K "need_part" "need_part" (defArgs st_need_part) (defBody st_need_part) (defScope st_need_part) ([]) [] (He.fAd K ("need_part", none)) fd → FnOk P w K mg base (CX P w) k (He.fAd K ("need_part", none)) fd ["value"] (spF ⟨K, He.ga K⟩ 1 (Γ.f 4))
  o5 : ∀ fd, FunD K "checked_parts" "checked_parts" (defArgs st_checked_parts) (defBody st_checked_parts) (defScope st_checked_parts) ([]) [] (He.fAd K ("checked_parts", none)) fd → FnOk P w K mg base (CX P w) k (He.fAd K ("checked_parts", none)) fd ["parts"] (spF ⟨K, He.ga K⟩ 1 (Γ.f 5))
  o6 : ∀ fd, FunD K "lines_of" "lines_of" (defArgs st_lines_of) (defBody st_lines_of) (defScope st_lines_of) ([V.ref (He.dflAt ("lines_of", none) 0 K)]) [] (He.fAd K ("lines_of", none)) fd → FnOk P w K mg base (CX P w) k (He.fAd K ("lines_of", none)) fd ["head", "blocks", "tail"] (spF ⟨K, He.ga K⟩ 3 (Γ.f 6))
  o7 : ∀ fd, FunD K "_law_deal" "_law_deal" (defArgs st__law_deal) (defBody st__law_deal) (defScope st__law_deal) ([]) [] (He.fAd K ("_law_deal", none)) fd → FnOk P w K mg base (CX P w) k (He.fAd K ("_law_deal", none)) fd ["_law_script_here", "_law_base"] (spF ⟨K, He.ga K⟩ 2 (Γ.f 7))
  o8 : ∀ fd, FunD K "_law_draw" "_law_draw" (defArgs st__law_draw) (defBody st__law_draw) (defScope st__law_draw) ([]) [] (He.fAd K ("_law_draw", none)) fd → FnOk P w K mg base (CX P w) k (He.fAd K ("_law_draw", none)) fd ["_law_deal_here", "_law_many"] (spF ⟨K, He.ga K⟩ 2 (Γ.f 8))
  o9 : ∀ fd, FunD K "_law_pick" "_law_pick" (defArgs st__law_pick) (defBody st__law_pick) (defScope st__law_pick) ([]) [] (He.fAd K ("_law_pick", none)) fd → FnOk P w K mg base (CX P w) k (He.fAd K ("_law_pick", none)) fd ["_law_deal_here", "_law_some"] (spF ⟨K, He.ga K⟩ 2 (Γ.f 9))
  o10 : ∀ fd, FunD K "_law_name" "_law_name" (defArgs st__law_name) (defBody st__law_name) (defScope st__law_name) ([]) [] (He.fAd K ("_law_name", none)) fd → FnOk P w K mg base (CX P w) k (He.fAd K ("_law_name", none)) fd ["_law_deal_here"] (spF ⟨K, He.ga K⟩ 1 (Γ.f 10))
  o11 : ∀ fd, FunD K "_law_kids" "_law_kids" (defArgs st__law_kids) (defBody st__law_kids) (defScope st__law_kids) ([]) [] (He.fAd K ("_law_kids", none)) fd → FnOk P w K mg base (CX P w) k (He.fAd K ("_law_kids", none)) fd ["_law_deal_here", "_law_room", "_law_deep", "_law_least"] (spF ⟨K, He.ga K⟩ 4 (Γ.f 11))
  o12 : ∀ fd, FunD K "_law_grown" "_law_grown" (defArgs st__law_grown) (defBody st__law_grown) (defScope st__law_grown) ([]) [] (He.fAd K ("_law_grown", none)) fd → FnOk P w K mg base (CX P w) k (He.fAd K ("_law_grown", none)) fd ["_law_deal_here", "_law_room", "_law_deep"] (spF ⟨K, He.ga K⟩ 3 (Γ.f 12))
  o13 : ∀ fd, FunD K "_law_blocks" "_law_blocks" (defArgs st__law_blocks) (defBody st__law_blocks) (defScope st__law_blocks) ([]) [] (He.fAd K ("_law_blocks", none)) fd → FnOk P w K mg base (CX P w) k (He.fAd K ("_law_blocks", none)) fd ["_law_told"] (spF ⟨K, He.ga K⟩ 1 (Γ.f 13))
  o14 : ∀ fd, FunD K "_law_head" "_law_head" (defArgs st__law_head) (defBody st__law_head) (defScope st__law_head) ([]) [] (He.fAd K ("_law_head", none)) fd → FnOk P w K mg base (CX P w) k (He.fAd K ("_law_head", none)) fd ["_law_told"] (spF ⟨K, He.ga K⟩ 1 (Γ.f 14))
  o15 : ∀ fd, FunD K "_law_script" "_law_script" (defArgs st__law_script) (defBody st__law_script) (defScope st__law_script) ([]) [] (He.fAd K ("_law_script", none)) fd → FnOk P w K mg base (CX P w) k (He.fAd K ("_law_script", none)) fd ["_law_told"] (spF ⟨K, He.ga K⟩ 1 (Γ.f 15))
  o16 : ∀ fd, FunD K "_law_nodes" "_law_nodes" (defArgs st__law_nodes) (defBody st__law_nodes) (defScope st__law_nodes) ([]) [] (He.fAd K ("_law_nodes", none)) fd → FnOk P w K mg base (CX P w) k (He.fAd K ("_law_nodes", none)) fd ["_law_told"] (spF ⟨K, He.ga K⟩ 1 (Γ.f 16))
  o17 : ∀ fd, FunD K "_law_make" "_law_make" (defArgs st__law_make) (defBody st__law_make) (defScope st__law_make) ([]) [] (He.fAd K ("_law_make", none)) fd → FnOk P w K mg base (CX P w) k (He.fAd K ("_law_make", none)) fd ["_law_told"] (spF ⟨K, He.ga K⟩ 1 (Γ.f 17))
  o18 : ∀ fd, FunD K "_law_ends" "_law_ends" (defArgs st__law_ends) (defBody st__law_ends) (defScope st__law_ends) ([]) [] (He.fAd K ("_law_ends", none)) fd → FnOk P w K mg base (CX P w) k (He.fAd K ("_law_ends", none)) fd ["_law_told"] (spF ⟨K, He.ga K⟩ 1 (Γ.f 18))
  o19 : ∀ fd, FunD K "law" "law" (defArgs st_law) (defBody st_law) (defScope st_law) ([]) [] (He.fAd K ("law", none)) fd → FnOk P w K mg base (CX P w) k (He.fAd K ("law", none)) fd ["_law_script_here"] (spF ⟨K, He.ga K⟩ 1 (Γ.f 19))
  o20 : ∀ (C : Str) fd, FunD K "__add__" "Tree.__add__" (defArgs st_Tree___add__) (defBody st_Tree___add__) (defScope st_Tree___add__) ([]) [] (He.fAd K ("Tree", some "__add__")) fd → FnOk P w K mg base (CX P w) k (He.fAd K ("Tree", some "__add__")) fd ["self", "other"] (spF ⟨K, He.ga K⟩ 2 (Γ.m 0 C))
  o21 : ∀ (C : Str) fd, FunD K "__or__" "Tree.__or__" (defArgs st_Tree___or__) (defBody st_Tree___or__) (defScope st_Tree___or__) ([]) [] (He.fAd K ("Tree", some "__or__")) fd → FnOk P w K mg base (CX P w) k (He.fAd K ("Tree", some "__or__")) fd ["self", "other"] (spF ⟨K, He.ga K⟩ 2 (Γ.m 1 C))
  o22 : ∀ (C : Str) fd, FunD K "__and__" "Tree.__and__" (defArgs st_Tree___and__) (defBody st_Tree___and__) (defScope st_Tree___and__) ([]) [] (He.fAd K ("Tree", some "__and__")) fd → FnOk P w K mg base (CX P w) k (He.fAd K ("Tree", some "__and__")) fd ["self", "other"] (spF ⟨K, He.ga K⟩ 2 (Γ.m 2 C))
  o23 : ∀ (C : Str) fd, FunD K "__mul__" "Tree.__mul__" (defArgs st_Tree___mul__) (defBody st_Tree___mul__) (defScope st_Tree___mul__) ([]) [] (He.fAd K ("Tree", some "__mul__")) fd → FnOk P w K mg base (CX P w) k (He.fAd K ("Tree", some "__mul__")) fd ["self", "count"] (spF ⟨K, He.ga K⟩ 2 (Γ.m 3 C))
  o24 : ∀ (C : Str) fd, FunD K "__invert__" "Tree.__invert__" (defArgs st_Tree___invert__) (defBody st_Tree___invert__) (defScope st_Tree___invert__) ([]) [] (He.fAd K ("Tree", some "__invert__")) fd → FnOk P w K mg base (CX P w) k (He.fAd K ("Tree", some "__invert__")) fd ["self"] (spF ⟨K, He.ga K⟩ 1 (Γ.m 4 C))
  o25 : ∀ (C : Str) fd, FunD K "__eq__" "Tree.__eq__" (defArgs st_Tree___eq__) (defBody st_Tree___eq__) (defScope st_Tree___eq__) ([]) [] (He.fAd K ("Tree", some "__eq__")) fd → FnOk P w K mg base (CX P w) k (He.fAd K ("Tree", some "__eq__")) fd ["self", "other"] (spF ⟨K, He.ga K⟩ 2 (Γ.m 5 C))
  o26 : ∀ (C : Str) fd, FunD K "__str__" "Tree.__str__" (defArgs st_Tree___str__) (defBody st_Tree___str__) (defScope st_Tree___str__) ([]) [] (He.fAd K ("Tree", some "__str__")) fd → FnOk P w K mg base (CX P w) k (He.fAd K ("Tree", some "__str__")) fd ["self"] (spF ⟨K, He.ga K⟩ 1 (Γ.m 6 C))
  o27 : ∀ (C : Str) fd, FunD K "__len__" "Tree.__len__" (defArgs st_Tree___len__) (defBody st_Tree___len__) (defScope st_Tree___len__) ([]) [] (He.fAd K ("Tree", some "__len__")) fd → FnOk P w K mg base (CX P w) k (He.fAd K ("Tree", some "__len__")) fd ["self"] (spF ⟨K, He.ga K⟩ 1 (Γ.m 7 C))
  o28 : ∀ (C : Str) fd, FunD K "__getitem__" "Tree.__getitem__" (defArgs st_Tree___getitem__) (defBody st_Tree___getitem__) (defScope st_Tree___getitem__) ([]) [] (He.fAd K ("Tree", some "__getitem__")) fd → FnOk P w K mg base (CX P w) k (He.fAd K ("Tree", some "__getitem__")) fd ["self", "at"] (spF ⟨K, He.ga K⟩ 2 (Γ.m 8 C))
  o29 : ∀ (C : Str) fd, FunD K "put" "Tree.put" (defArgs st_Tree_put) (defBody st_Tree_put) (defScope st_Tree_put) ([]) [] (He.fAd K ("Tree", some "put")) fd → FnOk P w K mg base (CX P w) k (He.fAd K ("Tree", some "put")) fd ["self", "at", "other"] (spF ⟨K, He.ga K⟩ 3 (Γ.m 9 C))
  o30_Do : ∀ fd, FunD K "anew" "Tree.anew" (defArgs st_Tree_anew) (defBody st_Tree_anew) (defScope st_Tree_anew) ([]) [] (He.fAd K ("Tree", some "anew")) fd → FnOk P w K mg base (CX P w) k (He.fAd K ("Tree", some "anew")) fd ["self", "blocks"] (spF ⟨K, He.ga K⟩ 2 (Γ.m 10 "Do"))
  o30_Ask : ∀ fd, FunD K "anew" "Tree.anew" (defArgs st_Tree_anew) (defBody st_Tree_anew) (defScope st_Tree_anew) ([]) [] (He.fAd K ("Tree", some "anew")) fd → FnOk P w K mg base (CX P w) k (He.fAd K ("Tree", some "anew")) fd ["self", "blocks"] (spF ⟨K, He.ga K⟩ 2 (Γ.m 10 "Ask"))
  o31_Row : ∀ fd, FunD K "anew" "Row.anew" (defArgs st_Row_anew) (defBody st_Row_anew) (defScope st_Row_anew) ([]) [] (He.fAd K ("Row", some "anew")) fd → FnOk P w K mg base (CX P w) k (He.fAd K ("Row", some "anew")) fd ["self", "blocks"] (spF ⟨K, He.ga K⟩ 2 (Γ.m 10 "Row"))
  o32_First : ∀ fd, FunD K "anew" "First.anew" (defArgs st_First_anew) (defBody st_First_anew) (defScope st_First_anew) ([]) [] (He.fAd K ("First", some "anew")) fd → FnOk P w K mg base (CX P w) k (He.fAd K ("First", some "anew")) fd ["self", "blocks"] (spF ⟨K, He.ga K⟩ 2 (Γ.m 10 "First"))
  o33_Beside : ∀ fd, FunD K "anew" "Beside.anew" (defArgs st_Beside_anew) (defBody st_Beside_anew) (defScope st_Beside_anew) ([]) [] (He.fAd K ("Beside", some "anew")) fd → FnOk P w K mg base (CX P w) k (He.fAd K ("Beside", some "anew")) fd ["self", "blocks"] (spF ⟨K, He.ga K⟩ 2 (Γ.m 10 "Beside"))
  o34_Again : ∀ fd, FunD K "anew" "Again.anew" (defArgs st_Again_anew) (defBody st_Again_anew) (defScope st_Again_anew) ([]) [] (He.fAd K ("Again", some "anew")) fd → FnOk P w K mg base (CX P w) k (He.fAd K ("Again", some "anew")) fd ["self", "blocks"] (spF ⟨K, He.ga K⟩ 2 (Γ.m 10 "Again"))
  o35_While : ∀ fd, FunD K "anew" "While.anew" (defArgs st_While_anew) (defBody st_While_anew) (defScope st_While_anew) ([]) [] (He.fAd K ("While", some "anew")) fd → FnOk P w K mg base (CX P w) k (He.fAd K ("While", some "anew")) fd ["self", "blocks"] (spF ⟨K, He.ga K⟩ 2 (Γ.m 10 "While"))
  o36_If : ∀ fd, FunD K "anew" "If.anew" (defArgs st_If_anew) (defBody st_If_anew) (defScope st_If_anew) ([]) [] (He.fAd K ("If", some "anew")) fd → FnOk P w K mg base (CX P w) k (He.fAd K ("If", some "anew")) fd ["self", "blocks"] (spF ⟨K, He.ga K⟩ 2 (Γ.m 10 "If"))
  o37_Not : ∀ fd, FunD K "anew" "Not.anew" (defArgs st_Not_anew) (defBody st_Not_anew) (defScope st_Not_anew) ([]) [] (He.fAd K ("Not", some "anew")) fd → FnOk P w K mg base (CX P w) k (He.fAd K ("Not", some "anew")) fd ["self", "blocks"] (spF ⟨K, He.ga K⟩ 2 (Γ.m 10 "Not"))
  o38_Always : ∀ fd, FunD K "anew" "Always.anew" (defArgs st_Always_anew) (defBody st_Always_anew) (defScope st_Always_anew) ([]) [] (He.fAd K ("Always", some "anew")) fd → FnOk P w K mg base (CX P w) k (He.fAd K ("Always", some "anew")) fd ["self", "blocks"] (spF ⟨K, He.ga K⟩ 2 (Γ.m 10 "Always"))
  o39 : ∀ fd, FunD K "__init__" "Tree.__init__" (defArgs st_Tree___init__) (defBody st_Tree___init__) (defScope st_Tree___init__) ([]) [] (He.fAd K ("Tree", some "__init__")) fd → FnOk P w K mg base (CX P w) k (He.fAd K ("Tree", some "__init__")) fd ["self", "sort", "blocks", "script"] (spI ⟨K, He.ga K⟩ 4 (Γ.i 10))
  o40 : ∀ fd cc cda, FunS P K "__init__" "Do.__init__" (defArgs st_Do___init__) (defBody st_Do___init__) (defScope st_Do___init__) (He.fAd K ("Do", some "__init__")) fd cc (He.ga K "Do") cda → FnOk P w K mg base (CX P w) k (He.fAd K ("Do", some "__init__")) fd ["self", "action"] (spI ⟨K, He.ga K⟩ 2 (Γ.i 0))
  o41 : ∀ fd cc cda, FunS P K "__init__" "Ask.__init__" (defArgs st_Ask___init__) (defBody st_Ask___init__) (defScope st_Ask___init__) (He.fAd K ("Ask", some "__init__")) fd cc (He.ga K "Ask") cda → FnOk P w K mg base (CX P w) k (He.fAd K ("Ask", some "__init__")) fd ["self", "question"] (spI ⟨K, He.ga K⟩ 2 (Γ.i 1))
  o42 : ∀ fd cc cda, FunS P K "__init__" "Row.__init__" (defArgs st_Row___init__) (defBody st_Row___init__) (defScope st_Row___init__) (He.fAd K ("Row", some "__init__")) fd cc (He.ga K "Row") cda → FnOk P w K mg base (CX P w) k (He.fAd K ("Row", some "__init__")) fd ["self", "parts", "kept"] (spI ⟨K, He.ga K⟩ 3 (Γ.i 2))
  o43 : ∀ fd cc cda, FunS P K "__init__" "First.__init__" (defArgs st_First___init__) (defBody st_First___init__) (defScope st_First___init__) (He.fAd K ("First", some "__init__")) fd cc (He.ga K "First") cda → FnOk P w K mg base (CX P w) k (He.fAd K ("First", some "__init__")) fd ["self", "parts", "kept"] (spI ⟨K, He.ga K⟩ 3 (Γ.i 3))
  o44 : ∀ fd cc cda, FunS P K "__init__" "Beside.__init__" (defArgs st_Beside___init__) (defBody st_Beside___init__) (defScope st_Beside___init__) (He.fAd K ("Beside", some "__init__")) fd cc (He.ga K "Beside") cda → FnOk P w K mg base (CX P w) k (He.fAd K ("Beside", some "__init__")) fd ["self", "parts", "needed"] (spI ⟨K, He.ga K⟩ 3 (Γ.i 4))
  o45 : ∀ fd cc cda, FunS P K "__init__" "Again.__init__" (defArgs st_Again___init__) (defBody st_Again___init__) (defScope st_Again___init__) (He.fAd K ("Again", some "__init__")) fd cc (He.ga K "Again") cda → FnOk P w K mg base (CX P w) k (He.fAd K ("Again", some "__init__")) fd ["self", "part", "rounds"] (spI ⟨K, He.ga K⟩ 3 (Γ.i 5))
  o46 : ∀ fd cc cda, FunS P K "__init__" "While.__init__" (defArgs st_While___init__) (defBody st_While___init__) (defScope st_While___init__) (He.fAd K ("While", some "__init__")) fd cc (He.ga K "While") cda → FnOk P w K mg base (CX P w) k (He.fAd K ("While", some "__init__")) fd ["self", "question", "part"] (spI ⟨K, He.ga K⟩ 3 (Γ.i 6))
  o47 : ∀ fd cc cda, FunS P K "__init__" "If.__init__" (defArgs st_If___init__) (defBody st_If___init__) (defScope st_If___init__) (He.fAd K ("If", some "__init__")) fd cc (He.ga K "If") cda → FnOk P w K mg base (CX P w) k (He.fAd K ("If", some "__init__")) fd ["self", "question", "part"] (spI ⟨K, He.ga K⟩ 3 (Γ.i 7))
  o48 : ∀ fd cc cda, FunS P K "__init__" "Not.__init__" (defArgs st_Not___init__) (defBody st_Not___init__) (defScope st_Not___init__) (He.fAd K ("Not", some "__init__")) fd cc (He.ga K "Not") cda → FnOk P w K mg base (CX P w) k (He.fAd K ("Not", some "__init__")) fd ["self", "part"] (spI ⟨K, He.ga K⟩ 2 (Γ.i 8))
  o49 : ∀ fd cc cda, FunS P K "__init__" "Always.__init__" (defArgs st_Always___init__) (defBody st_Always___init__) (defScope st_Always___init__) (He.fAd K ("Always", some "__init__")) fd cc (He.ga K "Always") cda → FnOk P w K mg base (CX P w) k (He.fAd K ("Always", some "__init__")) fd ["self", "word", "part"] (spI ⟨K, He.ga K⟩ 3 (Γ.i 9))
theorem oks0 {P : Program} {w : World} {K : PySem.W.Frag} {mg : Str → Option Value} {base : Heap} {k : Nat} : Oks P w K mg base k (Sv 0) := ⟨fun _ _ => fnOk_bad, fun _ _ => fnOk_bad, fun _ _ => fnOk_bad, fun _ _ => fnOk_bad, fun _ _ => fnOk_bad, fun _ _ => fnOk_bad, fun _ _ => fnOk_bad, fun _ _ => fnOk_bad, fun _ _ => fnOk_bad, fun _ _ => fnOk_bad, fun _ _ => fnOk_bad, fun _ _ => fnOk_bad, fun _ _ => fnOk_bad, fun _ _ => fnOk_bad, fun _ _ => fnOk_bad, fun _ _ => fnOk_bad, fun _ _ => fnOk_bad, fun _ _ => fnOk_bad, fun _ _ => fnOk_bad, fun _ _ => fnOk_bad, fun _ _ _ => fnOk_bad, fun _ _ _ => fnOk_bad, fun _ _ _ => fnOk_bad, fun _ _ _ => fnOk_bad, fun _ _ _ => fnOk_bad, fun _ _ _ => fnOk_bad, fun _ _ _ => fnOk_bad, fun _ _ _ => fnOk_bad, fun _ _ _ => fnOk_bad, fun _ _ _ => fnOk_bad, fun _ _ => fnOk_bad, fun _ _ => fnOk_bad, fun _ _ => fnOk_bad, fun _ _ => fnOk_bad, fun _ _ => fnOk_bad, fun _ _ => fnOk_bad, fun _ _ => fnOk_bad, fun _ _ => fnOk_bad, fun _ _ => fnOk_bad, fun _ _ => fnOk_bad, fun _ _ => fnOkI_bad, fun _ _ _ _ => fnOkI_bad, fun _ _ _ _ => fnOkI_bad, fun _ _ _ _ => fnOkI_bad, fun _ _ _ _ => fnOkI_bad, fun _ _ _ _ => fnOkI_bad, fun _ _ _ _ => fnOkI_bad, fun _ _ _ _ => fnOkI_bad, fun _ _ _ _ => fnOkI_bad, fun _ _ _ _ => fnOkI_bad, fun _ _ _ _ => fnOkI_bad⟩
def Ts : List Str := ["Do", "Ask", "Row", "First", "Beside", "Again", "While", "If", "Not", "Always"]
theorem oksS {P : Program} {w : World} {K : PySem.W.Frag} {mg : Str → Option Value} {base : Heap} {k : Nat} {Γ : Gam} (hF : Fx K mg (He.ga K) Tx) (hX : Ox K (He.ga K) Tt) (hI : GetT K (He.ga K) Tt) (hH : Hy P w K mg base (He.ga K) (4 * k) Tx Γ) (hS : ∀ C ∈ Ts, SupI P w K mg base (He.ga K) (4 * k) C 4 (Γ.i 10)) : Oks P w K mg base (4 * k + 3 + 1) (Gs Γ) :=
  ⟨fun fd Fd => fn_ok Fd sc_is_integer fun cdv A outer s H E B h => d_is_integer hF hX hI hH h,
    fun fd Fd => fn_ok Fd sc_is_name fun cdv A outer s H E B h => d_is_name hF hX hI hH h,
    fun fd Fd => fn_ok Fd sc_is_sequence fun cdv A outer s H E B h => d_is_sequence hF hX hI hH h,
    fun fd Fd => fn_ok Fd sc_need_name fun cdv A outer s H E B h => d_need_name hF hX hI hH h,
    fun fd Fd => fn_ok Fd sc_need_part fun cdv A outer s H E B h => d_need_part hF hX hI hH h,
    fun fd Fd => fn_ok Fd sc_checked_parts fun cdv A outer s H E B h => d_checked_parts hF hX hI hH h,
    fun fd Fd => fn_ok Fd sc_lines_of fun cdv A outer s H E B h => d_lines_of hF hX hI hH h,
    fun fd Fd => fn_ok Fd sc__law_deal fun cdv A outer s H E B h => d__law_deal hF hX hI hH h,
    fun fd Fd => fn_ok Fd sc__law_draw fun cdv A outer s H E B h => d__law_draw hF hX hI hH h,
    fun fd Fd => fn_ok Fd sc__law_pick fun cdv A outer s H E B h => d__law_pick hF hX hI hH h,
    fun fd Fd => fn_ok Fd sc__law_name fun cdv A outer s H E B h => d__law_name hF hX hI hH h,
    fun fd Fd => fn_ok Fd sc__law_kids fun cdv A outer s H E B h => d__law_kids hF hX hI hH h,
    fun fd Fd => fn_ok Fd sc__law_grown fun cdv A outer s H E B h => d__law_grown hF hX hI hH h,
    fun fd Fd => fn_ok Fd sc__law_blocks fun cdv A outer s H E B h => d__law_blocks hF hX hI hH h,
    fun fd Fd => fn_ok Fd sc__law_head fun cdv A outer s H E B h => d__law_head hF hX hI hH h,
    fun fd Fd => fn_ok Fd sc__law_script fun cdv A outer s H E B h => d__law_script hF hX hI hH h,
    fun fd Fd => fn_ok Fd sc__law_nodes fun cdv A outer s H E B h => d__law_nodes hF hX hI hH h,
    fun fd Fd => fn_ok Fd sc__law_make fun cdv A outer s H E B h => d__law_make hF hX hI hH h,
    fun fd Fd => fn_ok Fd sc__law_ends fun cdv A outer s H E B h => d__law_ends hF hX hI hH h,
    fun fd Fd => fn_ok Fd sc_law fun cdv A outer s H E B h => d_law hF hX hI hH h,
    fun _ fd Fd => fn_ok Fd sc_Tree___add__ fun cdv A outer s H E B h => d_Tree___add__ hF hX hI hH h,
    fun _ fd Fd => fn_ok Fd sc_Tree___or__ fun cdv A outer s H E B h => d_Tree___or__ hF hX hI hH h,
    fun _ fd Fd => fn_ok Fd sc_Tree___and__ fun cdv A outer s H E B h => d_Tree___and__ hF hX hI hH h,
    fun _ fd Fd => fn_ok Fd sc_Tree___mul__ fun cdv A outer s H E B h => d_Tree___mul__ hF hX hI hH h,
    fun _ fd Fd => fn_ok Fd sc_Tree___invert__ fun cdv A outer s H E B h => d_Tree___invert__ hF hX hI hH h,
    fun _ fd Fd => fn_ok Fd sc_Tree___eq__ fun cdv A outer s H E B h => d_Tree___eq__ hF hX hI hH h,
    fun _ fd Fd => fn_ok Fd sc_Tree___str__ fun cdv A outer s H E B h => d_Tree___str__ hF hX hI hH h,
    fun _ fd Fd => fn_ok Fd sc_Tree___len__ fun cdv A outer s H E B h => d_Tree___len__ hF hX hI hH h,
    fun _ fd Fd => fn_ok Fd sc_Tree___getitem__ fun cdv A outer s H E B h => d_Tree___getitem__ hF hX hI hH h,
    fun _ fd Fd => fn_ok Fd sc_Tree_put fun cdv A outer s H E B h => d_Tree_put hF hX hI hH h,
    fun fd Fd => (Gm_anew_Do Γ) ▸ fn_ok Fd sc_Tree_anew fun cdv A outer s H E B h => d_Tree_anew hF hX hI hH h,
    fun fd Fd => (Gm_anew_Ask Γ) ▸ fn_ok Fd sc_Tree_anew fun cdv A outer s H E B h => d_Tree_anew hF hX hI hH h,
    fun fd Fd => (Gm_anew_Row Γ) ▸ fn_ok Fd sc_Row_anew fun cdv A outer s H E B h => d_Row_anew hF hX hI hH h,
    fun fd Fd => (Gm_anew_First Γ) ▸ fn_ok Fd sc_First_anew fun cdv A outer s H E B h => d_First_anew hF hX hI hH h,
    fun fd Fd => (Gm_anew_Beside Γ) ▸ fn_ok Fd sc_Beside_anew fun cdv A outer s H E B h => d_Beside_anew hF hX hI hH h,
    fun fd Fd => (Gm_anew_Again Γ) ▸ fn_ok Fd sc_Again_anew fun cdv A outer s H E B h => d_Again_anew hF hX hI hH h,
    fun fd Fd => (Gm_anew_While Γ) ▸ fn_ok Fd sc_While_anew fun cdv A outer s H E B h => d_While_anew hF hX hI hH h,
    fun fd Fd => (Gm_anew_If Γ) ▸ fn_ok Fd sc_If_anew fun cdv A outer s H E B h => d_If_anew hF hX hI hH h,
    fun fd Fd => (Gm_anew_Not Γ) ▸ fn_ok Fd sc_Not_anew fun cdv A outer s H E B h => d_Not_anew hF hX hI hH h,
    fun fd Fd => (Gm_anew_Always Γ) ▸ fn_ok Fd sc_Always_anew fun cdv A outer s H E B h => d_Always_anew hF hX hI hH h,
    fun fd Fd => init_ok Fd sc_Tree___init__ fun cdv A outer s H E B h => d_Tree___init__ hF hX hI hH h,
    fun fd cc cda Fs => init_okS Fs sc_Do___init__ fun A outer s H E B h => d_Do___init__ hF hX hI hH Fs (hS "Do" (by decide)) h,
    fun fd cc cda Fs => init_okS Fs sc_Ask___init__ fun A outer s H E B h => d_Ask___init__ hF hX hI hH Fs (hS "Ask" (by decide)) h,
    fun fd cc cda Fs => init_okS Fs sc_Row___init__ fun A outer s H E B h => d_Row___init__ hF hX hI hH Fs (hS "Row" (by decide)) h,
    fun fd cc cda Fs => init_okS Fs sc_First___init__ fun A outer s H E B h => d_First___init__ hF hX hI hH Fs (hS "First" (by decide)) h,
    fun fd cc cda Fs => init_okS Fs sc_Beside___init__ fun A outer s H E B h => d_Beside___init__ hF hX hI hH Fs (hS "Beside" (by decide)) h,
    fun fd cc cda Fs => init_okS Fs sc_Again___init__ fun A outer s H E B h => d_Again___init__ hF hX hI hH Fs (hS "Again" (by decide)) h,
    fun fd cc cda Fs => init_okS Fs sc_While___init__ fun A outer s H E B h => d_While___init__ hF hX hI hH Fs (hS "While" (by decide)) h,
    fun fd cc cda Fs => init_okS Fs sc_If___init__ fun A outer s H E B h => d_If___init__ hF hX hI hH Fs (hS "If" (by decide)) h,
    fun fd cc cda Fs => init_okS Fs sc_Not___init__ fun A outer s H E B h => d_Not___init__ hF hX hI hH Fs (hS "Not" (by decide)) h,
    fun fd cc cda Fs => init_okS Fs sc_Always___init__ fun A outer s H E B h => d_Always___init__ hF hX hI hH Fs (hS "Always" (by decide)) h⟩
def ds : List DefU := [⟨("is_integer", none), "is_integer", "is_integer", defArgs st_is_integer, defBody st_is_integer, defScope st_is_integer⟩, ⟨("is_name", none), "is_name", "is_name", defArgs st_is_name, defBody st_is_name, defScope st_is_name⟩, ⟨("is_sequence", none), "is_sequence", "is_sequence", defArgs st_is_sequence, defBody st_is_sequence, defScope st_is_sequence⟩, ⟨("need_name", none), "need_name", "need_name", defArgs st_need_name, defBody st_need_name, defScope st_need_name⟩, ⟨("need_part", none), "need_part", "need_part", defArgs st_need_part, defBody st_need_part, defScope st_need_part⟩, ⟨("checked_parts", none), "checked_parts", "checked_parts", defArgs st_checked_parts, defBody st_checked_parts, defScope st_checked_parts⟩, ⟨("lines_of", none), "lines_of", "lines_of", defArgs st_lines_of, defBody st_lines_of, defScope st_lines_of⟩, ⟨("_law_deal", none), "_law_deal", "_law_deal", defArgs st__law_deal, defBody st__law_deal, defScope st__law_deal⟩, ⟨("_law_draw", none), "_law_draw", "_law_draw", defArgs st__law_draw, defBody st__law_draw, defScope st__law_draw⟩, ⟨("_law_pick", none), "_law_pick", "_law_pick", defArgs st__law_pick, defBody st__law_pick, defScope st__law_pick⟩, ⟨("_law_name", none), "_law_name", "_law_name", defArgs st__law_name, defBody st__law_name, defScope st__law_name⟩, ⟨("_law_kids", none), "_law_kids", "_law_kids", defArgs st__law_kids, defBody st__law_kids, defScope st__law_kids⟩, ⟨("_law_grown", none), "_law_grown", "_law_grown", defArgs st__law_grown, defBody st__law_grown, defScope st__law_grown⟩, ⟨("_law_blocks", none), "_law_blocks", "_law_blocks", defArgs st__law_blocks, defBody st__law_blocks, defScope st__law_blocks⟩, ⟨("_law_head", none), "_law_head", "_law_head", defArgs st__law_head, defBody st__law_head, defScope st__law_head⟩, ⟨("_law_script", none), "_law_script", "_law_script", defArgs st__law_script, defBody st__law_script, defScope st__law_script⟩, ⟨("_law_nodes", none), "_law_nodes", "_law_nodes", defArgs st__law_nodes, defBody st__law_nodes, defScope st__law_nodes⟩, ⟨("_law_make", none), "_law_make", "_law_make", defArgs st__law_make, defBody st__law_make, defScope st__law_make⟩, ⟨("_law_ends", none), "_law_ends", "_law_ends", defArgs st__law_ends, defBody st__law_ends, defScope st__law_ends⟩, ⟨("law", none), "law", "law", defArgs st_law, defBody st_law, defScope st_law⟩, ⟨("Tree", some "__add__"), "__add__", "Tree.__add__", defArgs st_Tree___add__, defBody st_Tree___add__, defScope st_Tree___add__⟩, ⟨("Tree", some "__or__"), "__or__", "Tree.__or__", defArgs st_Tree___or__, defBody st_Tree___or__, defScope st_Tree___or__⟩, ⟨("Tree", some "__and__"), "__and__", "Tree.__and__", defArgs st_Tree___and__, defBody st_Tree___and__, defScope st_Tree___and__⟩, ⟨("Tree", some "__mul__"), "__mul__", "Tree.__mul__", defArgs st_Tree___mul__, defBody st_Tree___mul__, defScope st_Tree___mul__⟩, ⟨("Tree", some "__invert__"), "__invert__", "Tree.__invert__", defArgs st_Tree___invert__, defBody st_Tree___invert__, defScope st_Tree___invert__⟩, ⟨("Tree", some "__eq__"), "__eq__", "Tree.__eq__", defArgs st_Tree___eq__, defBody st_Tree___eq__, defScope st_Tree___eq__⟩, ⟨("Tree", some "__str__"), "__str__", "Tree.__str__", defArgs st_Tree___str__, defBody st_Tree___str__, defScope st_Tree___str__⟩, ⟨("Tree", some "__len__"), "__len__", "Tree.__len__", defArgs st_Tree___len__, defBody st_Tree___len__, defScope st_Tree___len__⟩, ⟨("Tree", some "__getitem__"), "__getitem__", "Tree.__getitem__", defArgs st_Tree___getitem__, defBody st_Tree___getitem__, defScope st_Tree___getitem__⟩, ⟨("Tree", some "put"), "put", "Tree.put", defArgs st_Tree_put, defBody st_Tree_put, defScope st_Tree_put⟩, ⟨("Tree", some "anew"), "anew", "Tree.anew", defArgs st_Tree_anew, defBody st_Tree_anew, defScope st_Tree_anew⟩, ⟨("Row", some "anew"), "anew", "Row.anew", defArgs st_Row_anew, defBody st_Row_anew, defScope st_Row_anew⟩, ⟨("First", some "anew"), "anew", "First.anew", defArgs st_First_anew, defBody st_First_anew, defScope st_First_anew⟩, ⟨("Beside", some "anew"), "anew", "Beside.anew", defArgs st_Beside_anew, defBody st_Beside_anew, defScope st_Beside_anew⟩, ⟨("Again", some "anew"), "anew", "Again.anew", defArgs st_Again_anew, defBody st_Again_anew, defScope st_Again_anew⟩, ⟨("While", some "anew"), "anew", "While.anew", defArgs st_While_anew, defBody st_While_anew, defScope st_While_anew⟩, ⟨("If", some "anew"), "anew", "If.anew", defArgs st_If_anew, defBody st_If_anew, defScope st_If_anew⟩, ⟨("Not", some "anew"), "anew", "Not.anew", defArgs st_Not_anew, defBody st_Not_anew, defScope st_Not_anew⟩, ⟨("Always", some "anew"), "anew", "Always.anew", defArgs st_Always_anew, defBody st_Always_anew, defScope st_Always_anew⟩, ⟨("Tree", some "__init__"), "__init__", "Tree.__init__", defArgs st_Tree___init__, defBody st_Tree___init__, defScope st_Tree___init__⟩, ⟨("Do", some "__init__"), "__init__", "Do.__init__", defArgs st_Do___init__, defBody st_Do___init__, defScope st_Do___init__⟩, ⟨("Ask", some "__init__"), "__init__", "Ask.__init__", defArgs st_Ask___init__, defBody st_Ask___init__, defScope st_Ask___init__⟩, ⟨("Row", some "__init__"), "__init__", "Row.__init__", defArgs st_Row___init__, defBody st_Row___init__, defScope st_Row___init__⟩, ⟨("First", some "__init__"), "__init__", "First.__init__", defArgs st_First___init__, defBody st_First___init__, defScope st_First___init__⟩, ⟨("Beside", some "__init__"), "__init__", "Beside.__init__", defArgs st_Beside___init__, defBody st_Beside___init__, defScope st_Beside___init__⟩, ⟨("Again", some "__init__"), "__init__", "Again.__init__", defArgs st_Again___init__, defBody st_Again___init__, defScope st_Again___init__⟩, ⟨("While", some "__init__"), "__init__", "While.__init__", defArgs st_While___init__, defBody st_While___init__, defScope st_While___init__⟩, ⟨("If", some "__init__"), "__init__", "If.__init__", defArgs st_If___init__, defBody st_If___init__, defScope st_If___init__⟩, ⟨("Not", some "__init__"), "__init__", "Not.__init__", defArgs st_Not___init__, defBody st_Not___init__, defScope st_Not___init__⟩, ⟨("Always", some "__init__"), "__init__", "Always.__init__", defArgs st_Always___init__, defBody st_Always___init__, defScope st_Always___init__⟩]
def fileK : Str := PySem.Challenge.pw_deedtrees_k09_whole_nodes_exchanged.main.file
def Bdd (K : PySem.W.Frag) : List Bool := [defB K ("is_integer", none) "is_integer" ([]), defB K ("is_name", none) "is_name" ([]), defB K ("is_sequence", none) "is_sequence" ([]), defB K ("need_name", none) "need_name" ([]), defB K ("need_part", none) "need_part" ([]), defB K ("checked_parts", none) "checked_parts" ([]), defB K ("lines_of", none) "lines_of" ([V.ref (He.dflAt ("lines_of", none) 0 K)]), defB K ("_law_deal", none) "_law_deal" ([]), defB K ("_law_draw", none) "_law_draw" ([]), defB K ("_law_pick", none) "_law_pick" ([]), defB K ("_law_name", none) "_law_name" ([]), defB K ("_law_kids", none) "_law_kids" ([]), defB K ("_law_grown", none) "_law_grown" ([]), defB K ("_law_blocks", none) "_law_blocks" ([]), defB K ("_law_head", none) "_law_head" ([]), defB K ("_law_script", none) "_law_script" ([]), defB K ("_law_nodes", none) "_law_nodes" ([]), defB K ("_law_make", none) "_law_make" ([]), defB K ("_law_ends", none) "_law_ends" ([]), defB K ("law", none) "law" ([]), defB K ("Tree", some "__add__") "Tree.__add__" ([]), defB K ("Tree", some "__or__") "Tree.__or__" ([]), defB K ("Tree", some "__and__") "Tree.__and__" ([]), defB K ("Tree", some "__mul__") "Tree.__mul__" ([]), defB K ("Tree", some "__invert__") "Tree.__invert__" ([]), defB K ("Tree", some "__eq__") "Tree.__eq__" ([]), defB K ("Tree", some "__str__") "Tree.__str__" ([]), defB K ("Tree", some "__len__") "Tree.__len__" ([]), defB K ("Tree", some "__getitem__") "Tree.__getitem__" ([]), defB K ("Tree", some "put") "Tree.put" ([]), defB K ("Tree", some "anew") "Tree.anew" ([]), defB K ("Row", some "anew") "Row.anew" ([]), defB K ("First", some "anew") "First.anew" ([]), defB K ("Beside", some "anew") "Beside.anew" ([]), defB K ("Again", some "anew") "Again.anew" ([]), defB K ("While", some "anew") "While.anew" ([]), defB K ("If", some "anew") "If.anew" ([]), defB K ("Not", some "anew") "Not.anew" ([]), defB K ("Always", some "anew") "Always.anew" ([]), defB K ("Tree", some "__init__") "Tree.__init__" ([]), supB K fileK "Do" ("Do", some "__init__") "Do.__init__" ([]), supB K fileK "Ask" ("Ask", some "__init__") "Ask.__init__" ([]), supB K fileK "Row" ("Row", some "__init__") "Row.__init__" ([V.bl false]), supB K fileK "First" ("First", some "__init__") "First.__init__" ([V.bl false]), supB K fileK "Beside" ("Beside", some "__init__") "Beside.__init__" ([]), supB K fileK "Again" ("Again", some "__init__") "Again.__init__" ([V.non]), supB K fileK "While" ("While", some "__init__") "While.__init__" ([]), supB K fileK "If" ("If", some "__init__") "If.__init__" ([]), supB K fileK "Not" ("Not", some "__init__") "Not.__init__" ([]), supB K fileK "Always" ("Always", some "__init__") "Always.__init__" ([])]
def mrow (K : PySem.W.Frag) (p : Str × Str × Str) : Bool := (He.Fa.meth p.1 p.2.1).ok K && decide (He.ma K (He.ga K p.1) p.2.1 = He.ma K (He.ga K p.2.2) p.2.1)
def Tmt : List (Str × Str × Str) := ([("Do", "__add__", "Tree"), ("Ask", "__add__", "Tree"), ("Row", "__add__", "Tree"), ("First", "__add__", "Tree"), ("Beside", "__add__", "Tree"), ("Again", "__add__", "Tree"), ("While", "__add__", "Tree"), ("If", "__add__", "Tree"), ("Not", "__add__", "Tree"), ("Always", "__add__", "Tree"), ("Do", "__or__", "Tree"), ("Ask", "__or__", "Tree"), ("Row", "__or__", "Tree"), ("First", "__or__", "Tree"), ("Beside", "__or__", "Tree"), ("Again", "__or__", "Tree"), ("While", "__or__", "Tree"), ("If", "__or__", "Tree"), ("Not", "__or__", "Tree"), ("Always", "__or__", "Tree"), ("Do", "__and__", "Tree"), ("Ask", "__and__", "Tree"), ("Row", "__and__", "Tree"), ("First", "__and__", "Tree"), ("Beside", "__and__", "Tree"), ("Again", "__and__", "Tree"), ("While", "__and__", "Tree"), ("If", "__and__", "Tree"), ("Not", "__and__", "Tree"), ("Always", "__and__", "Tree")] : List (Str × Str × Str)) ++ ([("Do", "__mul__", "Tree"), ("Ask", "__mul__", "Tree"), ("Row", "__mul__", "Tree"), ("First", "__mul__", "Tree"), ("Beside", "__mul__", "Tree"), ("Again", "__mul__", "Tree"), ("While", "__mul__", "Tree"), ("If", "__mul__", "Tree"), ("Not", "__mul__", "Tree"), ("Always", "__mul__", "Tree"), ("Do", "__invert__", "Tree"), ("Ask", "__invert__", "Tree"), ("Row", "__invert__", "Tree"), ("First", "__invert__", "Tree"), ("Beside", "__invert__", "Tree"), ("Again", "__invert__", "Tree"), ("While", "__invert__", "Tree"), ("If", "__invert__", "Tree"), ("Not", "__invert__", "Tree"), ("Always", "__invert__", "Tree"), ("Do", "__eq__", "Tree"), ("Ask", "__eq__", "Tree"), ("Row", "__eq__", "Tree"), ("First", "__eq__", "Tree"), ("Beside", "__eq__", "Tree"), ("Again", "__eq__", "Tree"), ("While", "__eq__", "Tree"), ("If", "__eq__", "Tree"), ("Not", "__eq__", "Tree"), ("Always", "__eq__", "Tree")] : List (Str × Str × Str)) ++ ([("Do", "__str__", "Tree"), ("Ask", "__str__", "Tree"), ("Row", "__str__", "Tree"), ("First", "__str__", "Tree"), ("Beside", "__str__", "Tree"), ("Again", "__str__", "Tree"), ("While", "__str__", "Tree"), ("If", "__str__", "Tree"), ("Not", "__str__", "Tree"), ("Always", "__str__", "Tree"), ("Do", "__len__", "Tree"), ("Ask", "__len__", "Tree"), ("Row", "__len__", "Tree"), ("First", "__len__", "Tree"), ("Beside", "__len__", "Tree"), ("Again", "__len__", "Tree"), ("While", "__len__", "Tree"), ("If", "__len__", "Tree"), ("Not", "__len__", "Tree"), ("Always", "__len__", "Tree"), ("Do", "__getitem__", "Tree"), ("Ask", "__getitem__", "Tree"), ("Row", "__getitem__", "Tree"), ("First", "__getitem__", "Tree"), ("Beside", "__getitem__", "Tree"), ("Again", "__getitem__", "Tree"), ("While", "__getitem__", "Tree"), ("If", "__getitem__", "Tree"), ("Not", "__getitem__", "Tree"), ("Always", "__getitem__", "Tree")] : List (Str × Str × Str)) ++ ([("Do", "put", "Tree"), ("Ask", "put", "Tree"), ("Row", "put", "Tree"), ("First", "put", "Tree"), ("Beside", "put", "Tree"), ("Again", "put", "Tree"), ("While", "put", "Tree"), ("If", "put", "Tree"), ("Not", "put", "Tree"), ("Always", "put", "Tree"), ("Do", "anew", "Tree"), ("Ask", "anew", "Tree"), ("Row", "anew", "Row"), ("First", "anew", "First"), ("Beside", "anew", "Beside"), ("Again", "anew", "Again"), ("While", "anew", "While"), ("If", "anew", "If"), ("Not", "anew", "Not"), ("Always", "anew", "Always")] : List (Str × Str × Str))
def Tf : List Str := ["is_integer", "is_name", "is_sequence", "need_name", "need_part", "checked_parts", "lines_of", "_law_deal", "_law_draw", "_law_pick", "_law_name", "_law_kids", "_law_grown", "_law_blocks", "_law_head", "_law_script", "_law_nodes", "_law_make", "_law_ends", "law"]
def Ti : List Str := ["Do", "Ask", "Row", "First", "Beside", "Again", "While", "If", "Not", "Always"]
def Bk (K : PySem.W.Frag) : Bool := FxB K Tx && (OxB K Tt && ((Bdd K).all id && ((Tmt.all (mrow K)) && ((Ti.all fun C => (He.Fa.mkr C).ok K) && ((Tf.all fun x => (He.Fa.glo x).ok K) && (noLst K && ((Ts.all fun C => supFB K "Tree" C) && etB K && getB K Tt)))))))
abbrev Rw : PySem.W.OpenRow := PySem.W.OpenLaw.row PySem.Challenge.rw_deedtrees_k09_whole_nodes_exchanged
theorem Bk_of {K : PySem.W.Frag} (h : Bk K = true) : FxB K Tx = true ∧ OxB K Tt = true ∧ (Bdd K).all id = true ∧ Tmt.all (mrow K) = true ∧ (Ti.all fun C => (He.Fa.mkr C).ok K) = true ∧ (Tf.all fun x => (He.Fa.glo x).ok K) = true ∧ noLst K = true ∧ ((Ts.all fun C => supFB K "Tree" C) && etB K && getB K Tt) = true := by
  unfold Bk at h
  simp only [Bool.and_eq_true] at h ⊢
  obtain ⟨h1, h2, h3, h4, h5, h6, h7, h8⟩ := h
  exact ⟨h1, h2, h3, h4, h5, h6, h7, h8⟩
theorem rf0 {P : Program} {w : World} {K : PySem.W.Frag} {mg : Str → Option Value} {base : Heap} {k : Nat} {Γ : Gam} {h : Heap} (hf : (P.main.file : Str) = fileK) (c : SaysU Bk ds K) (X : K.In h) (G : h.Ns mainGlobals mg) (o : Oks P w K mg base k Γ) : Cal P w K mg base (He.ga K) k "is_integer" 1 [] (Γ.f 0) := by
  have b := Bk_of c.b
  have bd : ∀ (i : Nat) {z : Bool}, (Bdd K)[i]? = some z → z = true := fun i z e => List.all_eq_true.mp b.2.2.1 z (List.mem_of_getElem? e)
  obtain ⟨fd0, Fd⟩ := funD_of (d := ⟨("is_integer", none), "is_integer", "is_integer", defArgs st_is_integer, defBody st_is_integer, defScope st_is_integer⟩) (c.d 0) (bd 0 (by rfl))
  exact cal_mk Fd (o.o0 _ Fd) (He.glo_ok X G (List.all_eq_true.mp b.2.2.2.2.2.1 "is_integer" (by decide))) (Fd.bindsN fun _ _ _ _ _ _ us hl => by match us, hl with | [_], _ => rfl) .nil fun _ _ => RWs.nil

theorem rf1 {P : Program} {w : World} {K : PySem.W.Frag} {mg : Str → Option Value} {base : Heap} {k : Nat} {Γ : Gam} {h : Heap} (hf : (P.main.file : Str) = fileK) (c : SaysU Bk ds K) (X : K.In h) (G : h.Ns mainGlobals mg) (o : Oks P w K mg base k Γ) : Cal P w K mg base (He.ga K) k "is_name" 1 [] (Γ.f 1) := by
  have b := Bk_of c.b
  have bd : ∀ (i : Nat) {z : Bool}, (Bdd K)[i]? = some z → z = true := fun i z e => List.all_eq_true.mp b.2.2.1 z (List.mem_of_getElem? e)
  obtain ⟨fd1, Fd⟩ := funD_of (d := ⟨("is_name", none), "is_name", "is_name", defArgs st_is_name, defBody st_is_name, defScope st_is_name⟩) (c.d 1) (bd 1 (by rfl))
  exact cal_mk Fd (o.o1 _ Fd) (He.glo_ok X G (List.all_eq_true.mp b.2.2.2.2.2.1 "is_name" (by decide))) (Fd.bindsN fun _ _ _ _ _ _ us hl => by match us, hl with | [_], _ => rfl) .nil fun _ _ => RWs.nil

theorem rf2 {P : Program} {w : World} {K : PySem.W.Frag} {mg : Str → Option Value} {base : Heap} {k : Nat} {Γ : Gam} {h : Heap} (hf : (P.main.file : Str) = fileK) (c : SaysU Bk ds K) (X : K.In h) (G : h.Ns mainGlobals mg) (o : Oks P w K mg base k Γ) : Cal P w K mg base (He.ga K) k "is_sequence" 1 [] (Γ.f 2) := by
  have b := Bk_of c.b
  have bd : ∀ (i : Nat) {z : Bool}, (Bdd K)[i]? = some z → z = true := fun i z e => List.all_eq_true.mp b.2.2.1 z (List.mem_of_getElem? e)
  obtain ⟨fd2, Fd⟩ := funD_of (d := ⟨("is_sequence", none), "is_sequence", "is_sequence", defArgs st_is_sequence, defBody st_is_sequence, defScope st_is_sequence⟩) (c.d 2) (bd 2 (by rfl))
  exact cal_mk Fd (o.o2 _ Fd) (He.glo_ok X G (List.all_eq_true.mp b.2.2.2.2.2.1 "is_sequence" (by decide))) (Fd.bindsN fun _ _ _ _ _ _ us hl => by match us, hl with | [_], _ => rfl) .nil fun _ _ => RWs.nil

theorem rf3 {P : Program} {w : World} {K : PySem.W.Frag} {mg : Str → Option Value} {base : Heap} {k : Nat} {Γ : Gam} {h : Heap} (hf : (P.main.file : Str) = fileK) (c : SaysU Bk ds K) (X : K.In h) (G : h.Ns mainGlobals mg) (o : Oks P w K mg base k Γ) : Cal P w K mg base (He.ga K) k "need_name" 2 [] (Γ.f 3) := by
  have b := Bk_of c.b
  have bd : ∀ (i : Nat) {z : Bool}, (Bdd K)[i]? = some z → z = true := fun i z e => List.all_eq_true.mp b.2.2.1 z (List.mem_of_getElem? e)
  obtain ⟨fd3, Fd⟩ := funD_of (d := ⟨("need_name", none), "need_name", "need_name", defArgs st_need_name, defBody st_need_name, defScope st_need_name⟩) (c.d 3) (bd 3 (by rfl))
  exact cal_mk Fd (o.o3 _ Fd) (He.glo_ok X G (List.all_eq_true.mp b.2.2.2.2.2.1 "need_name" (by decide))) (Fd.bindsN fun _ _ _ _ _ _ us hl => by match us, hl with | [_, _], _ => rfl) .nil fun _ _ => RWs.nil

theorem rf4 {P : Program} {w : World} {K : PySem.W.Frag} {mg : Str → Option Value} {base : Heap} {k : Nat} {Γ : Gam} {h : Heap} (hf : (P.main.file : Str) = fileK) (c : SaysU Bk ds K) (X : K.In h) (G : h.Ns mainGlobals mg) (o : Oks P w K mg base k Γ) : Cal P w K mg base (He.ga K) k "need_part" 1 [] (Γ.f 4) := by
  have b := Bk_of c.b
  have bd : ∀ (i : Nat) {z : Bool}, (Bdd K)[i]? = some z → z = true := fun i z e => List.all_eq_true.mp b.2.2.1 z (List.mem_of_getElem? e)
  obtain ⟨fd4, Fd⟩ := funD_of (d := ⟨("need_part", none), "need_part", "need_part", defArgs st_need_part, defBody st_need_part, defScope st_need_part⟩) (c.d 4) (bd 4 (by rfl))
  exact cal_mk Fd (o.o4 _ Fd) (He.glo_ok X G (List.all_eq_true.mp b.2.2.2.2.2.1 "need_part" (by decide))) (Fd.bindsN fun _ _ _ _ _ _ us hl => by match us, hl with | [_], _ => rfl) .nil fun _ _ => RWs.nil

theorem rf5 {P : Program} {w : World} {K : PySem.W.Frag} {mg : Str → Option Value} {base : Heap} {k : Nat} {Γ : Gam} {h : Heap} (hf : (P.main.file : Str) = fileK) (c : SaysU Bk ds K) (X : K.In h) (G : h.Ns mainGlobals mg) (o : Oks P w K mg base k Γ) : Cal P w K mg base (He.ga K) k "checked_parts" 1 [] (Γ.f 5) := by
  have b := Bk_of c.b
  have bd : ∀ (i : Nat) {z : Bool}, (Bdd K)[i]? = some z → z = true := fun i z e => List.all_eq_true.mp b.2.2.1 z (List.mem_of_getElem? e)
  obtain ⟨fd5, Fd⟩ := funD_of (d := ⟨("checked_parts", none), "checked_parts", "checked_parts", defArgs st_checked_parts, defBody st_checked_parts, defScope st_checked_parts⟩) (c.d 5) (bd 5 (by rfl))
  exact cal_mk Fd (o.o5 _ Fd) (He.glo_ok X G (List.all_eq_true.mp b.2.2.2.2.2.1 "checked_parts" (by decide))) (Fd.bindsN fun _ _ _ _ _ _ us hl => by match us, hl with | [_], _ => rfl) .nil fun _ _ => RWs.nil

theorem rf6 {P : Program} {w : World} {K : PySem.W.Frag} {mg : Str → Option Value} {base : Heap} {k : Nat} {Γ : Gam} {h : Heap} (hf : (P.main.file : Str) = fileK) (c : SaysU Bk ds K) (X : K.In h) (G : h.Ns mainGlobals mg) (o : Oks P w K mg base k Γ) : Cal P w K mg base (He.ga K) k "lines_of" 3 [] (Γ.f 6) := by
  have b := Bk_of c.b
  have bd : ∀ (i : Nat) {z : Bool}, (Bdd K)[i]? = some z → z = true := fun i z e => List.all_eq_true.mp b.2.2.1 z (List.mem_of_getElem? e)
  obtain ⟨fd6, Fd⟩ := funD_of (d := ⟨("lines_of", none), "lines_of", "lines_of", defArgs st_lines_of, defBody st_lines_of, defScope st_lines_of⟩) (c.d 6) (bd 6 (by rfl))
  obtain ⟨ds, hv, hb⟩ := (Fd.binds1 (ps := ["head", "blocks", "tail"]) 3 1 (by simp) (by simp) fun T _ _ _ _ _ _ us its hl hi => by match us, hl, its, hi with | [_, _, _], _, [_], _ => exact ⟨_, rfl, rfl⟩)
  exact cal_mk Fd (o.o6 _ Fd) (He.glo_ok X G (List.all_eq_true.mp b.2.2.2.2.2.1 "lines_of" (by decide))) hb hv (fun _ _ => RWs.nil)

theorem rf7 {P : Program} {w : World} {K : PySem.W.Frag} {mg : Str → Option Value} {base : Heap} {k : Nat} {Γ : Gam} {h : Heap} (hf : (P.main.file : Str) = fileK) (c : SaysU Bk ds K) (X : K.In h) (G : h.Ns mainGlobals mg) (o : Oks P w K mg base k Γ) : Cal P w K mg base (He.ga K) k "lines_of" 3 [.tup []] (Γ.f 6) := by
  have b := Bk_of c.b
  have bd : ∀ (i : Nat) {z : Bool}, (Bdd K)[i]? = some z → z = true := fun i z e => List.all_eq_true.mp b.2.2.1 z (List.mem_of_getElem? e)
  obtain ⟨fd6, Fd⟩ := funD_of (d := ⟨("lines_of", none), "lines_of", "lines_of", defArgs st_lines_of, defBody st_lines_of, defScope st_lines_of⟩) (c.d 6) (bd 6 (by rfl))
  obtain ⟨ds, hv, hb⟩ := (Fd.binds1 (ps := ["head", "blocks", "tail"]) 2 0 (by simp) (by simp) fun T _ _ _ _ _ _ us its hl hi => by match us, hl, its, hi with | [_, _], _, [_], _ => exact ⟨_, rfl, rfl⟩)
  exact cal_mk Fd (o.o6 _ Fd) (He.glo_ok X G (List.all_eq_true.mp b.2.2.2.2.2.1 "lines_of" (by decide))) hb hv (fun F ρ => RWs.cons (empty_tup (by have z := b.2.2.2.2.2.2.2; simp only [Bool.and_eq_true] at z; exact z.1.2) F ρ) RWs.nil)

theorem rf8 {P : Program} {w : World} {K : PySem.W.Frag} {mg : Str → Option Value} {base : Heap} {k : Nat} {Γ : Gam} {h : Heap} (hf : (P.main.file : Str) = fileK) (c : SaysU Bk ds K) (X : K.In h) (G : h.Ns mainGlobals mg) (o : Oks P w K mg base k Γ) : Cal P w K mg base (He.ga K) k "_law_deal" 2 [] (Γ.f 7) := by
  have b := Bk_of c.b
  have bd : ∀ (i : Nat) {z : Bool}, (Bdd K)[i]? = some z → z = true := fun i z e => List.all_eq_true.mp b.2.2.1 z (List.mem_of_getElem? e)
  obtain ⟨fd7, Fd⟩ := funD_of (d := ⟨("_law_deal", none), "_law_deal", "_law_deal", defArgs st__law_deal, defBody st__law_deal, defScope st__law_deal⟩) (c.d 7) (bd 7 (by rfl))
  exact cal_mk Fd (o.o7 _ Fd) (He.glo_ok X G (List.all_eq_true.mp b.2.2.2.2.2.1 "_law_deal" (by decide))) (Fd.bindsN fun _ _ _ _ _ _ us hl => by match us, hl with | [_, _], _ => rfl) .nil fun _ _ => RWs.nil

theorem rf9 {P : Program} {w : World} {K : PySem.W.Frag} {mg : Str → Option Value} {base : Heap} {k : Nat} {Γ : Gam} {h : Heap} (hf : (P.main.file : Str) = fileK) (c : SaysU Bk ds K) (X : K.In h) (G : h.Ns mainGlobals mg) (o : Oks P w K mg base k Γ) : Cal P w K mg base (He.ga K) k "_law_draw" 2 [] (Γ.f 8) := by
  have b := Bk_of c.b
  have bd : ∀ (i : Nat) {z : Bool}, (Bdd K)[i]? = some z → z = true := fun i z e => List.all_eq_true.mp b.2.2.1 z (List.mem_of_getElem? e)
  obtain ⟨fd8, Fd⟩ := funD_of (d := ⟨("_law_draw", none), "_law_draw", "_law_draw", defArgs st__law_draw, defBody st__law_draw, defScope st__law_draw⟩) (c.d 8) (bd 8 (by rfl))
  exact cal_mk Fd (o.o8 _ Fd) (He.glo_ok X G (List.all_eq_true.mp b.2.2.2.2.2.1 "_law_draw" (by decide))) (Fd.bindsN fun _ _ _ _ _ _ us hl => by match us, hl with | [_, _], _ => rfl) .nil fun _ _ => RWs.nil

theorem rf10 {P : Program} {w : World} {K : PySem.W.Frag} {mg : Str → Option Value} {base : Heap} {k : Nat} {Γ : Gam} {h : Heap} (hf : (P.main.file : Str) = fileK) (c : SaysU Bk ds K) (X : K.In h) (G : h.Ns mainGlobals mg) (o : Oks P w K mg base k Γ) : Cal P w K mg base (He.ga K) k "_law_pick" 2 [] (Γ.f 9) := by
  have b := Bk_of c.b
  have bd : ∀ (i : Nat) {z : Bool}, (Bdd K)[i]? = some z → z = true := fun i z e => List.all_eq_true.mp b.2.2.1 z (List.mem_of_getElem? e)
  obtain ⟨fd9, Fd⟩ := funD_of (d := ⟨("_law_pick", none), "_law_pick", "_law_pick", defArgs st__law_pick, defBody st__law_pick, defScope st__law_pick⟩) (c.d 9) (bd 9 (by rfl))
  exact cal_mk Fd (o.o9 _ Fd) (He.glo_ok X G (List.all_eq_true.mp b.2.2.2.2.2.1 "_law_pick" (by decide))) (Fd.bindsN fun _ _ _ _ _ _ us hl => by match us, hl with | [_, _], _ => rfl) .nil fun _ _ => RWs.nil

theorem rf11 {P : Program} {w : World} {K : PySem.W.Frag} {mg : Str → Option Value} {base : Heap} {k : Nat} {Γ : Gam} {h : Heap} (hf : (P.main.file : Str) = fileK) (c : SaysU Bk ds K) (X : K.In h) (G : h.Ns mainGlobals mg) (o : Oks P w K mg base k Γ) : Cal P w K mg base (He.ga K) k "_law_name" 1 [] (Γ.f 10) := by
  have b := Bk_of c.b
  have bd : ∀ (i : Nat) {z : Bool}, (Bdd K)[i]? = some z → z = true := fun i z e => List.all_eq_true.mp b.2.2.1 z (List.mem_of_getElem? e)
  obtain ⟨fd10, Fd⟩ := funD_of (d := ⟨("_law_name", none), "_law_name", "_law_name", defArgs st__law_name, defBody st__law_name, defScope st__law_name⟩) (c.d 10) (bd 10 (by rfl))
  exact cal_mk Fd (o.o10 _ Fd) (He.glo_ok X G (List.all_eq_true.mp b.2.2.2.2.2.1 "_law_name" (by decide))) (Fd.bindsN fun _ _ _ _ _ _ us hl => by match us, hl with | [_], _ => rfl) .nil fun _ _ => RWs.nil

theorem rf12 {P : Program} {w : World} {K : PySem.W.Frag} {mg : Str → Option Value} {base : Heap} {k : Nat} {Γ : Gam} {h : Heap} (hf : (P.main.file : Str) = fileK) (c : SaysU Bk ds K) (X : K.In h) (G : h.Ns mainGlobals mg) (o : Oks P w K mg base k Γ) : Cal P w K mg base (He.ga K) k "_law_kids" 4 [] (Γ.f 11) := by
  have b := Bk_of c.b
  have bd : ∀ (i : Nat) {z : Bool}, (Bdd K)[i]? = some z → z = true := fun i z e => List.all_eq_true.mp b.2.2.1 z (List.mem_of_getElem? e)
  obtain ⟨fd11, Fd⟩ := funD_of (d := ⟨("_law_kids", none), "_law_kids", "_law_kids", defArgs st__law_kids, defBody st__law_kids, defScope st__law_kids⟩) (c.d 11) (bd 11 (by rfl))
  exact cal_mk Fd (o.o11 _ Fd) (He.glo_ok X G (List.all_eq_true.mp b.2.2.2.2.2.1 "_law_kids" (by decide))) (Fd.bindsN fun _ _ _ _ _ _ us hl => by match us, hl with | [_, _, _, _], _ => rfl) .nil fun _ _ => RWs.nil

theorem rf13 {P : Program} {w : World} {K : PySem.W.Frag} {mg : Str → Option Value} {base : Heap} {k : Nat} {Γ : Gam} {h : Heap} (hf : (P.main.file : Str) = fileK) (c : SaysU Bk ds K) (X : K.In h) (G : h.Ns mainGlobals mg) (o : Oks P w K mg base k Γ) : Cal P w K mg base (He.ga K) k "_law_grown" 3 [] (Γ.f 12) := by
  have b := Bk_of c.b
  have bd : ∀ (i : Nat) {z : Bool}, (Bdd K)[i]? = some z → z = true := fun i z e => List.all_eq_true.mp b.2.2.1 z (List.mem_of_getElem? e)
  obtain ⟨fd12, Fd⟩ := funD_of (d := ⟨("_law_grown", none), "_law_grown", "_law_grown", defArgs st__law_grown, defBody st__law_grown, defScope st__law_grown⟩) (c.d 12) (bd 12 (by rfl))
  exact cal_mk Fd (o.o12 _ Fd) (He.glo_ok X G (List.all_eq_true.mp b.2.2.2.2.2.1 "_law_grown" (by decide))) (Fd.bindsN fun _ _ _ _ _ _ us hl => by match us, hl with | [_, _, _], _ => rfl) .nil fun _ _ => RWs.nil

theorem rf14 {P : Program} {w : World} {K : PySem.W.Frag} {mg : Str → Option Value} {base : Heap} {k : Nat} {Γ : Gam} {h : Heap} (hf : (P.main.file : Str) = fileK) (c : SaysU Bk ds K) (X : K.In h) (G : h.Ns mainGlobals mg) (o : Oks P w K mg base k Γ) : Cal P w K mg base (He.ga K) k "_law_blocks" 1 [] (Γ.f 13) := by
  have b := Bk_of c.b
  have bd : ∀ (i : Nat) {z : Bool}, (Bdd K)[i]? = some z → z = true := fun i z e => List.all_eq_true.mp b.2.2.1 z (List.mem_of_getElem? e)
  obtain ⟨fd13, Fd⟩ := funD_of (d := ⟨("_law_blocks", none), "_law_blocks", "_law_blocks", defArgs st__law_blocks, defBody st__law_blocks, defScope st__law_blocks⟩) (c.d 13) (bd 13 (by rfl))
  exact cal_mk Fd (o.o13 _ Fd) (He.glo_ok X G (List.all_eq_true.mp b.2.2.2.2.2.1 "_law_blocks" (by decide))) (Fd.bindsN fun _ _ _ _ _ _ us hl => by match us, hl with | [_], _ => rfl) .nil fun _ _ => RWs.nil

theorem rf15 {P : Program} {w : World} {K : PySem.W.Frag} {mg : Str → Option Value} {base : Heap} {k : Nat} {Γ : Gam} {h : Heap} (hf : (P.main.file : Str) = fileK) (c : SaysU Bk ds K) (X : K.In h) (G : h.Ns mainGlobals mg) (o : Oks P w K mg base k Γ) : Cal P w K mg base (He.ga K) k "_law_head" 1 [] (Γ.f 14) := by
  have b := Bk_of c.b
  have bd : ∀ (i : Nat) {z : Bool}, (Bdd K)[i]? = some z → z = true := fun i z e => List.all_eq_true.mp b.2.2.1 z (List.mem_of_getElem? e)
  obtain ⟨fd14, Fd⟩ := funD_of (d := ⟨("_law_head", none), "_law_head", "_law_head", defArgs st__law_head, defBody st__law_head, defScope st__law_head⟩) (c.d 14) (bd 14 (by rfl))
  exact cal_mk Fd (o.o14 _ Fd) (He.glo_ok X G (List.all_eq_true.mp b.2.2.2.2.2.1 "_law_head" (by decide))) (Fd.bindsN fun _ _ _ _ _ _ us hl => by match us, hl with | [_], _ => rfl) .nil fun _ _ => RWs.nil

theorem rf16 {P : Program} {w : World} {K : PySem.W.Frag} {mg : Str → Option Value} {base : Heap} {k : Nat} {Γ : Gam} {h : Heap} (hf : (P.main.file : Str) = fileK) (c : SaysU Bk ds K) (X : K.In h) (G : h.Ns mainGlobals mg) (o : Oks P w K mg base k Γ) : Cal P w K mg base (He.ga K) k "_law_script" 1 [] (Γ.f 15) := by
  have b := Bk_of c.b
  have bd : ∀ (i : Nat) {z : Bool}, (Bdd K)[i]? = some z → z = true := fun i z e => List.all_eq_true.mp b.2.2.1 z (List.mem_of_getElem? e)
  obtain ⟨fd15, Fd⟩ := funD_of (d := ⟨("_law_script", none), "_law_script", "_law_script", defArgs st__law_script, defBody st__law_script, defScope st__law_script⟩) (c.d 15) (bd 15 (by rfl))
  exact cal_mk Fd (o.o15 _ Fd) (He.glo_ok X G (List.all_eq_true.mp b.2.2.2.2.2.1 "_law_script" (by decide))) (Fd.bindsN fun _ _ _ _ _ _ us hl => by match us, hl with | [_], _ => rfl) .nil fun _ _ => RWs.nil

theorem rf17 {P : Program} {w : World} {K : PySem.W.Frag} {mg : Str → Option Value} {base : Heap} {k : Nat} {Γ : Gam} {h : Heap} (hf : (P.main.file : Str) = fileK) (c : SaysU Bk ds K) (X : K.In h) (G : h.Ns mainGlobals mg) (o : Oks P w K mg base k Γ) : Cal P w K mg base (He.ga K) k "_law_nodes" 1 [] (Γ.f 16) := by
  have b := Bk_of c.b
  have bd : ∀ (i : Nat) {z : Bool}, (Bdd K)[i]? = some z → z = true := fun i z e => List.all_eq_true.mp b.2.2.1 z (List.mem_of_getElem? e)
  obtain ⟨fd16, Fd⟩ := funD_of (d := ⟨("_law_nodes", none), "_law_nodes", "_law_nodes", defArgs st__law_nodes, defBody st__law_nodes, defScope st__law_nodes⟩) (c.d 16) (bd 16 (by rfl))
  exact cal_mk Fd (o.o16 _ Fd) (He.glo_ok X G (List.all_eq_true.mp b.2.2.2.2.2.1 "_law_nodes" (by decide))) (Fd.bindsN fun _ _ _ _ _ _ us hl => by match us, hl with | [_], _ => rfl) .nil fun _ _ => RWs.nil

theorem rf18 {P : Program} {w : World} {K : PySem.W.Frag} {mg : Str → Option Value} {base : Heap} {k : Nat} {Γ : Gam} {h : Heap} (hf : (P.main.file : Str) = fileK) (c : SaysU Bk ds K) (X : K.In h) (G : h.Ns mainGlobals mg) (o : Oks P w K mg base k Γ) : Cal P w K mg base (He.ga K) k "_law_make" 1 [] (Γ.f 17) := by
  have b := Bk_of c.b
  have bd : ∀ (i : Nat) {z : Bool}, (Bdd K)[i]? = some z → z = true := fun i z e => List.all_eq_true.mp b.2.2.1 z (List.mem_of_getElem? e)
  obtain ⟨fd17, Fd⟩ := funD_of (d := ⟨("_law_make", none), "_law_make", "_law_make", defArgs st__law_make, defBody st__law_make, defScope st__law_make⟩) (c.d 17) (bd 17 (by rfl))
  exact cal_mk Fd (o.o17 _ Fd) (He.glo_ok X G (List.all_eq_true.mp b.2.2.2.2.2.1 "_law_make" (by decide))) (Fd.bindsN fun _ _ _ _ _ _ us hl => by match us, hl with | [_], _ => rfl) .nil fun _ _ => RWs.nil

theorem rf19 {P : Program} {w : World} {K : PySem.W.Frag} {mg : Str → Option Value} {base : Heap} {k : Nat} {Γ : Gam} {h : Heap} (hf : (P.main.file : Str) = fileK) (c : SaysU Bk ds K) (X : K.In h) (G : h.Ns mainGlobals mg) (o : Oks P w K mg base k Γ) : Cal P w K mg base (He.ga K) k "_law_ends" 1 [] (Γ.f 18) := by
  have b := Bk_of c.b
  have bd : ∀ (i : Nat) {z : Bool}, (Bdd K)[i]? = some z → z = true := fun i z e => List.all_eq_true.mp b.2.2.1 z (List.mem_of_getElem? e)
  obtain ⟨fd18, Fd⟩ := funD_of (d := ⟨("_law_ends", none), "_law_ends", "_law_ends", defArgs st__law_ends, defBody st__law_ends, defScope st__law_ends⟩) (c.d 18) (bd 18 (by rfl))
  exact cal_mk Fd (o.o18 _ Fd) (He.glo_ok X G (List.all_eq_true.mp b.2.2.2.2.2.1 "_law_ends" (by decide))) (Fd.bindsN fun _ _ _ _ _ _ us hl => by match us, hl with | [_], _ => rfl) .nil fun _ _ => RWs.nil

theorem rf20 {P : Program} {w : World} {K : PySem.W.Frag} {mg : Str → Option Value} {base : Heap} {k : Nat} {Γ : Gam} {h : Heap} (hf : (P.main.file : Str) = fileK) (c : SaysU Bk ds K) (X : K.In h) (G : h.Ns mainGlobals mg) (o : Oks P w K mg base k Γ) : Cal P w K mg base (He.ga K) k "law" 1 [] (Γ.f 19) := by
  have b := Bk_of c.b
  have bd : ∀ (i : Nat) {z : Bool}, (Bdd K)[i]? = some z → z = true := fun i z e => List.all_eq_true.mp b.2.2.1 z (List.mem_of_getElem? e)
  obtain ⟨fd19, Fd⟩ := funD_of (d := ⟨("law", none), "law", "law", defArgs st_law, defBody st_law, defScope st_law⟩) (c.d 19) (bd 19 (by rfl))
  exact cal_mk Fd (o.o19 _ Fd) (He.glo_ok X G (List.all_eq_true.mp b.2.2.2.2.2.1 "law" (by decide))) (Fd.bindsN fun _ _ _ _ _ _ us hl => by match us, hl with | [_], _ => rfl) .nil fun _ _ => RWs.nil

theorem ri0 {P : Program} {w : World} {K : PySem.W.Frag} {mg : Str → Option Value} {base : Heap} {k : Nat} {Γ : Gam} {h : Heap} (hf : (P.main.file : Str) = fileK) (c : SaysU Bk ds K) (X : K.In h) (G : h.Ns mainGlobals mg) (o : Oks P w K mg base k Γ) : CalI P w K mg base (He.ga K) k "Do" 2 [] (Γ.i 0) := by
  have b := Bk_of c.b
  have bd : ∀ (i : Nat) {z : Bool}, (Bdd K)[i]? = some z → z = true := fun i z e => List.all_eq_true.mp b.2.2.1 z (List.mem_of_getElem? e)
  have hF := Fx_of X G b.1
  obtain ⟨fd40, cc40, cda40, Fs, hD⟩ := funS_of (P := P) (d := ⟨("Do", some "__init__"), "__init__", "Do.__init__", defArgs st_Do___init__, defBody st_Do___init__, defScope st_Do___init__⟩) hf (c.d 40) (bd 40 (by rfl))
  exact calI_mk (dvs := []) (o.o40 _ _ _ Fs) (hF.cls "Do" (by decide)) (He.mkr_ok (List.all_eq_true.mp b.2.2.2.2.1 "Do" (by decide))) (Fs.bindsN hD fun _ _ _ _ _ us hl => by match us, hl with | [_, _], _ => rfl) .nil fun _ _ => RWs.nil

theorem ri1 {P : Program} {w : World} {K : PySem.W.Frag} {mg : Str → Option Value} {base : Heap} {k : Nat} {Γ : Gam} {h : Heap} (hf : (P.main.file : Str) = fileK) (c : SaysU Bk ds K) (X : K.In h) (G : h.Ns mainGlobals mg) (o : Oks P w K mg base k Γ) : CalI P w K mg base (He.ga K) k "Ask" 2 [] (Γ.i 1) := by
  have b := Bk_of c.b
  have bd : ∀ (i : Nat) {z : Bool}, (Bdd K)[i]? = some z → z = true := fun i z e => List.all_eq_true.mp b.2.2.1 z (List.mem_of_getElem? e)
  have hF := Fx_of X G b.1
  obtain ⟨fd41, cc41, cda41, Fs, hD⟩ := funS_of (P := P) (d := ⟨("Ask", some "__init__"), "__init__", "Ask.__init__", defArgs st_Ask___init__, defBody st_Ask___init__, defScope st_Ask___init__⟩) hf (c.d 41) (bd 41 (by rfl))
  exact calI_mk (dvs := []) (o.o41 _ _ _ Fs) (hF.cls "Ask" (by decide)) (He.mkr_ok (List.all_eq_true.mp b.2.2.2.2.1 "Ask" (by decide))) (Fs.bindsN hD fun _ _ _ _ _ us hl => by match us, hl with | [_, _], _ => rfl) .nil fun _ _ => RWs.nil

theorem ri2 {P : Program} {w : World} {K : PySem.W.Frag} {mg : Str → Option Value} {base : Heap} {k : Nat} {Γ : Gam} {h : Heap} (hf : (P.main.file : Str) = fileK) (c : SaysU Bk ds K) (X : K.In h) (G : h.Ns mainGlobals mg) (o : Oks P w K mg base k Γ) : CalI P w K mg base (He.ga K) k "Row" 3 [] (Γ.i 2) := by
  have b := Bk_of c.b
  have bd : ∀ (i : Nat) {z : Bool}, (Bdd K)[i]? = some z → z = true := fun i z e => List.all_eq_true.mp b.2.2.1 z (List.mem_of_getElem? e)
  have hF := Fx_of X G b.1
  obtain ⟨fd42, cc42, cda42, Fs, hD⟩ := funS_of (P := P) (d := ⟨("Row", some "__init__"), "__init__", "Row.__init__", defArgs st_Row___init__, defBody st_Row___init__, defScope st_Row___init__⟩) hf (c.d 42) (bd 42 (by rfl))
  obtain ⟨ds, hv, hb⟩ := (Fs.bindsD (ps := ["self", "parts", "kept"]) hD 3 1 (by simp) (by simp) fun T _ _ _ _ _ us its hl hi => by match us, hl, its, hi with | [_, _, _], _, [_], _ => exact ⟨_, rfl, rfl⟩)
  exact calI_mk (o.o42 _ _ _ Fs) (hF.cls "Row" (by decide)) (He.mkr_ok (List.all_eq_true.mp b.2.2.2.2.1 "Row" (by decide))) hb hv (fun _ _ => RWs.nil)

theorem ri3 {P : Program} {w : World} {K : PySem.W.Frag} {mg : Str → Option Value} {base : Heap} {k : Nat} {Γ : Gam} {h : Heap} (hf : (P.main.file : Str) = fileK) (c : SaysU Bk ds K) (X : K.In h) (G : h.Ns mainGlobals mg) (o : Oks P w K mg base k Γ) : CalI P w K mg base (He.ga K) k "Row" 3 [.bl false] (Γ.i 2) := by
  have b := Bk_of c.b
  have bd : ∀ (i : Nat) {z : Bool}, (Bdd K)[i]? = some z → z = true := fun i z e => List.all_eq_true.mp b.2.2.1 z (List.mem_of_getElem? e)
  have hF := Fx_of X G b.1
  obtain ⟨fd42, cc42, cda42, Fs, hD⟩ := funS_of (P := P) (d := ⟨("Row", some "__init__"), "__init__", "Row.__init__", defArgs st_Row___init__, defBody st_Row___init__, defScope st_Row___init__⟩) hf (c.d 42) (bd 42 (by rfl))
  obtain ⟨ds, hv, hb⟩ := (Fs.bindsD (ps := ["self", "parts", "kept"]) hD 2 0 (by simp) (by simp) fun T _ _ _ _ _ us its hl hi => by match us, hl, its, hi with | [_, _], _, [_], _ => exact ⟨_, rfl, rfl⟩)
  exact calI_mk (o.o42 _ _ _ Fs) (hF.cls "Row" (by decide)) (He.mkr_ok (List.all_eq_true.mp b.2.2.2.2.1 "Row" (by decide))) hb hv (fun _ _ => RWs.cons rfl RWs.nil)

theorem ri4 {P : Program} {w : World} {K : PySem.W.Frag} {mg : Str → Option Value} {base : Heap} {k : Nat} {Γ : Gam} {h : Heap} (hf : (P.main.file : Str) = fileK) (c : SaysU Bk ds K) (X : K.In h) (G : h.Ns mainGlobals mg) (o : Oks P w K mg base k Γ) : CalI P w K mg base (He.ga K) k "First" 3 [] (Γ.i 3) := by
  have b := Bk_of c.b
  have bd : ∀ (i : Nat) {z : Bool}, (Bdd K)[i]? = some z → z = true := fun i z e => List.all_eq_true.mp b.2.2.1 z (List.mem_of_getElem? e)
  have hF := Fx_of X G b.1
  obtain ⟨fd43, cc43, cda43, Fs, hD⟩ := funS_of (P := P) (d := ⟨("First", some "__init__"), "__init__", "First.__init__", defArgs st_First___init__, defBody st_First___init__, defScope st_First___init__⟩) hf (c.d 43) (bd 43 (by rfl))
  obtain ⟨ds, hv, hb⟩ := (Fs.bindsD (ps := ["self", "parts", "kept"]) hD 3 1 (by simp) (by simp) fun T _ _ _ _ _ us its hl hi => by match us, hl, its, hi with | [_, _, _], _, [_], _ => exact ⟨_, rfl, rfl⟩)
  exact calI_mk (o.o43 _ _ _ Fs) (hF.cls "First" (by decide)) (He.mkr_ok (List.all_eq_true.mp b.2.2.2.2.1 "First" (by decide))) hb hv (fun _ _ => RWs.nil)

theorem ri5 {P : Program} {w : World} {K : PySem.W.Frag} {mg : Str → Option Value} {base : Heap} {k : Nat} {Γ : Gam} {h : Heap} (hf : (P.main.file : Str) = fileK) (c : SaysU Bk ds K) (X : K.In h) (G : h.Ns mainGlobals mg) (o : Oks P w K mg base k Γ) : CalI P w K mg base (He.ga K) k "First" 3 [.bl false] (Γ.i 3) := by
  have b := Bk_of c.b
  have bd : ∀ (i : Nat) {z : Bool}, (Bdd K)[i]? = some z → z = true := fun i z e => List.all_eq_true.mp b.2.2.1 z (List.mem_of_getElem? e)
  have hF := Fx_of X G b.1
  obtain ⟨fd43, cc43, cda43, Fs, hD⟩ := funS_of (P := P) (d := ⟨("First", some "__init__"), "__init__", "First.__init__", defArgs st_First___init__, defBody st_First___init__, defScope st_First___init__⟩) hf (c.d 43) (bd 43 (by rfl))
  obtain ⟨ds, hv, hb⟩ := (Fs.bindsD (ps := ["self", "parts", "kept"]) hD 2 0 (by simp) (by simp) fun T _ _ _ _ _ us its hl hi => by match us, hl, its, hi with | [_, _], _, [_], _ => exact ⟨_, rfl, rfl⟩)
  exact calI_mk (o.o43 _ _ _ Fs) (hF.cls "First" (by decide)) (He.mkr_ok (List.all_eq_true.mp b.2.2.2.2.1 "First" (by decide))) hb hv (fun _ _ => RWs.cons rfl RWs.nil)

theorem ri6 {P : Program} {w : World} {K : PySem.W.Frag} {mg : Str → Option Value} {base : Heap} {k : Nat} {Γ : Gam} {h : Heap} (hf : (P.main.file : Str) = fileK) (c : SaysU Bk ds K) (X : K.In h) (G : h.Ns mainGlobals mg) (o : Oks P w K mg base k Γ) : CalI P w K mg base (He.ga K) k "Beside" 3 [] (Γ.i 4) := by
  have b := Bk_of c.b
  have bd : ∀ (i : Nat) {z : Bool}, (Bdd K)[i]? = some z → z = true := fun i z e => List.all_eq_true.mp b.2.2.1 z (List.mem_of_getElem? e)
  have hF := Fx_of X G b.1
  obtain ⟨fd44, cc44, cda44, Fs, hD⟩ := funS_of (P := P) (d := ⟨("Beside", some "__init__"), "__init__", "Beside.__init__", defArgs st_Beside___init__, defBody st_Beside___init__, defScope st_Beside___init__⟩) hf (c.d 44) (bd 44 (by rfl))
  exact calI_mk (dvs := []) (o.o44 _ _ _ Fs) (hF.cls "Beside" (by decide)) (He.mkr_ok (List.all_eq_true.mp b.2.2.2.2.1 "Beside" (by decide))) (Fs.bindsN hD fun _ _ _ _ _ us hl => by match us, hl with | [_, _, _], _ => rfl) .nil fun _ _ => RWs.nil

theorem ri7 {P : Program} {w : World} {K : PySem.W.Frag} {mg : Str → Option Value} {base : Heap} {k : Nat} {Γ : Gam} {h : Heap} (hf : (P.main.file : Str) = fileK) (c : SaysU Bk ds K) (X : K.In h) (G : h.Ns mainGlobals mg) (o : Oks P w K mg base k Γ) : CalI P w K mg base (He.ga K) k "Again" 3 [] (Γ.i 5) := by
  have b := Bk_of c.b
  have bd : ∀ (i : Nat) {z : Bool}, (Bdd K)[i]? = some z → z = true := fun i z e => List.all_eq_true.mp b.2.2.1 z (List.mem_of_getElem? e)
  have hF := Fx_of X G b.1
  obtain ⟨fd45, cc45, cda45, Fs, hD⟩ := funS_of (P := P) (d := ⟨("Again", some "__init__"), "__init__", "Again.__init__", defArgs st_Again___init__, defBody st_Again___init__, defScope st_Again___init__⟩) hf (c.d 45) (bd 45 (by rfl))
  obtain ⟨ds, hv, hb⟩ := (Fs.bindsD (ps := ["self", "part", "rounds"]) hD 3 1 (by simp) (by simp) fun T _ _ _ _ _ us its hl hi => by match us, hl, its, hi with | [_, _, _], _, [_], _ => exact ⟨_, rfl, rfl⟩)
  exact calI_mk (o.o45 _ _ _ Fs) (hF.cls "Again" (by decide)) (He.mkr_ok (List.all_eq_true.mp b.2.2.2.2.1 "Again" (by decide))) hb hv (fun _ _ => RWs.nil)

theorem ri8 {P : Program} {w : World} {K : PySem.W.Frag} {mg : Str → Option Value} {base : Heap} {k : Nat} {Γ : Gam} {h : Heap} (hf : (P.main.file : Str) = fileK) (c : SaysU Bk ds K) (X : K.In h) (G : h.Ns mainGlobals mg) (o : Oks P w K mg base k Γ) : CalI P w K mg base (He.ga K) k "While" 3 [] (Γ.i 6) := by
  have b := Bk_of c.b
  have bd : ∀ (i : Nat) {z : Bool}, (Bdd K)[i]? = some z → z = true := fun i z e => List.all_eq_true.mp b.2.2.1 z (List.mem_of_getElem? e)
  have hF := Fx_of X G b.1
  obtain ⟨fd46, cc46, cda46, Fs, hD⟩ := funS_of (P := P) (d := ⟨("While", some "__init__"), "__init__", "While.__init__", defArgs st_While___init__, defBody st_While___init__, defScope st_While___init__⟩) hf (c.d 46) (bd 46 (by rfl))
  exact calI_mk (dvs := []) (o.o46 _ _ _ Fs) (hF.cls "While" (by decide)) (He.mkr_ok (List.all_eq_true.mp b.2.2.2.2.1 "While" (by decide))) (Fs.bindsN hD fun _ _ _ _ _ us hl => by match us, hl with | [_, _, _], _ => rfl) .nil fun _ _ => RWs.nil

theorem ri9 {P : Program} {w : World} {K : PySem.W.Frag} {mg : Str → Option Value} {base : Heap} {k : Nat} {Γ : Gam} {h : Heap} (hf : (P.main.file : Str) = fileK) (c : SaysU Bk ds K) (X : K.In h) (G : h.Ns mainGlobals mg) (o : Oks P w K mg base k Γ) : CalI P w K mg base (He.ga K) k "If" 3 [] (Γ.i 7) := by
  have b := Bk_of c.b
  have bd : ∀ (i : Nat) {z : Bool}, (Bdd K)[i]? = some z → z = true := fun i z e => List.all_eq_true.mp b.2.2.1 z (List.mem_of_getElem? e)
  have hF := Fx_of X G b.1
  obtain ⟨fd47, cc47, cda47, Fs, hD⟩ := funS_of (P := P) (d := ⟨("If", some "__init__"), "__init__", "If.__init__", defArgs st_If___init__, defBody st_If___init__, defScope st_If___init__⟩) hf (c.d 47) (bd 47 (by rfl))
  exact calI_mk (dvs := []) (o.o47 _ _ _ Fs) (hF.cls "If" (by decide)) (He.mkr_ok (List.all_eq_true.mp b.2.2.2.2.1 "If" (by decide))) (Fs.bindsN hD fun _ _ _ _ _ us hl => by match us, hl with | [_, _, _], _ => rfl) .nil fun _ _ => RWs.nil

theorem ri10 {P : Program} {w : World} {K : PySem.W.Frag} {mg : Str → Option Value} {base : Heap} {k : Nat} {Γ : Gam} {h : Heap} (hf : (P.main.file : Str) = fileK) (c : SaysU Bk ds K) (X : K.In h) (G : h.Ns mainGlobals mg) (o : Oks P w K mg base k Γ) : CalI P w K mg base (He.ga K) k "Not" 2 [] (Γ.i 8) := by
  have b := Bk_of c.b
  have bd : ∀ (i : Nat) {z : Bool}, (Bdd K)[i]? = some z → z = true := fun i z e => List.all_eq_true.mp b.2.2.1 z (List.mem_of_getElem? e)
  have hF := Fx_of X G b.1
  obtain ⟨fd48, cc48, cda48, Fs, hD⟩ := funS_of (P := P) (d := ⟨("Not", some "__init__"), "__init__", "Not.__init__", defArgs st_Not___init__, defBody st_Not___init__, defScope st_Not___init__⟩) hf (c.d 48) (bd 48 (by rfl))
  exact calI_mk (dvs := []) (o.o48 _ _ _ Fs) (hF.cls "Not" (by decide)) (He.mkr_ok (List.all_eq_true.mp b.2.2.2.2.1 "Not" (by decide))) (Fs.bindsN hD fun _ _ _ _ _ us hl => by match us, hl with | [_, _], _ => rfl) .nil fun _ _ => RWs.nil

theorem ri11 {P : Program} {w : World} {K : PySem.W.Frag} {mg : Str → Option Value} {base : Heap} {k : Nat} {Γ : Gam} {h : Heap} (hf : (P.main.file : Str) = fileK) (c : SaysU Bk ds K) (X : K.In h) (G : h.Ns mainGlobals mg) (o : Oks P w K mg base k Γ) : CalI P w K mg base (He.ga K) k "Always" 3 [] (Γ.i 9) := by
  have b := Bk_of c.b
  have bd : ∀ (i : Nat) {z : Bool}, (Bdd K)[i]? = some z → z = true := fun i z e => List.all_eq_true.mp b.2.2.1 z (List.mem_of_getElem? e)
  have hF := Fx_of X G b.1
  obtain ⟨fd49, cc49, cda49, Fs, hD⟩ := funS_of (P := P) (d := ⟨("Always", some "__init__"), "__init__", "Always.__init__", defArgs st_Always___init__, defBody st_Always___init__, defScope st_Always___init__⟩) hf (c.d 49) (bd 49 (by rfl))
  exact calI_mk (dvs := []) (o.o49 _ _ _ Fs) (hF.cls "Always" (by decide)) (He.mkr_ok (List.all_eq_true.mp b.2.2.2.2.1 "Always" (by decide))) (Fs.bindsN hD fun _ _ _ _ _ us hl => by match us, hl with | [_, _, _], _ => rfl) .nil fun _ _ => RWs.nil

theorem rm20 {P : Program} {w : World} {K : PySem.W.Frag} {mg : Str → Option Value} {base : Heap} {k : Nat} {Γ : Gam} {h : Heap} (hf : (P.main.file : Str) = fileK) (c : SaysU Bk ds K) (X : K.In h) (G : h.Ns mainGlobals mg) (o : Oks P w K mg base k Γ) (C : Str) (hC : ((C, "__add__", "Tree") : Str × Str × Str) ∈ Tmt) : CalM P w K mg base (He.ga K) k C "__add__" 2 [] (Γ.m 0 C) := by
  have b := Bk_of c.b
  have bd : ∀ (i : Nat) {z : Bool}, (Bdd K)[i]? = some z → z = true := fun i z e => List.all_eq_true.mp b.2.2.1 z (List.mem_of_getElem? e)
  obtain ⟨fd20, Fd⟩ := funD_of (d := ⟨("Tree", some "__add__"), "__add__", "Tree.__add__", defArgs st_Tree___add__, defBody st_Tree___add__, defScope st_Tree___add__⟩) (c.d 20) (bd 20 (by rfl))
  obtain ⟨h1, h2⟩ := He.ba (List.all_eq_true.mp b.2.2.2.1 _ hC)
  have hM := He.meth_ok h1
  rw [show He.ma K (He.ga K C) "__add__" = He.fAd K ("Tree", some "__add__") from of_decide_eq_true h2] at hM
  exact calM_mk (o.o20 C _ Fd) hM (Fd.bindsN fun _ _ _ _ _ _ us hl => by match us, hl with | [_, _], _ => rfl)

theorem rm21 {P : Program} {w : World} {K : PySem.W.Frag} {mg : Str → Option Value} {base : Heap} {k : Nat} {Γ : Gam} {h : Heap} (hf : (P.main.file : Str) = fileK) (c : SaysU Bk ds K) (X : K.In h) (G : h.Ns mainGlobals mg) (o : Oks P w K mg base k Γ) (C : Str) (hC : ((C, "__or__", "Tree") : Str × Str × Str) ∈ Tmt) : CalM P w K mg base (He.ga K) k C "__or__" 2 [] (Γ.m 1 C) := by
  have b := Bk_of c.b
  have bd : ∀ (i : Nat) {z : Bool}, (Bdd K)[i]? = some z → z = true := fun i z e => List.all_eq_true.mp b.2.2.1 z (List.mem_of_getElem? e)
  obtain ⟨fd21, Fd⟩ := funD_of (d := ⟨("Tree", some "__or__"), "__or__", "Tree.__or__", defArgs st_Tree___or__, defBody st_Tree___or__, defScope st_Tree___or__⟩) (c.d 21) (bd 21 (by rfl))
  obtain ⟨h1, h2⟩ := He.ba (List.all_eq_true.mp b.2.2.2.1 _ hC)
  have hM := He.meth_ok h1
  rw [show He.ma K (He.ga K C) "__or__" = He.fAd K ("Tree", some "__or__") from of_decide_eq_true h2] at hM
  exact calM_mk (o.o21 C _ Fd) hM (Fd.bindsN fun _ _ _ _ _ _ us hl => by match us, hl with | [_, _], _ => rfl)

theorem rm22 {P : Program} {w : World} {K : PySem.W.Frag} {mg : Str → Option Value} {base : Heap} {k : Nat} {Γ : Gam} {h : Heap} (hf : (P.main.file : Str) = fileK) (c : SaysU Bk ds K) (X : K.In h) (G : h.Ns mainGlobals mg) (o : Oks P w K mg base k Γ) (C : Str) (hC : ((C, "__and__", "Tree") : Str × Str × Str) ∈ Tmt) : CalM P w K mg base (He.ga K) k C "__and__" 2 [] (Γ.m 2 C) := by
  have b := Bk_of c.b
  have bd : ∀ (i : Nat) {z : Bool}, (Bdd K)[i]? = some z → z = true := fun i z e => List.all_eq_true.mp b.2.2.1 z (List.mem_of_getElem? e)
  obtain ⟨fd22, Fd⟩ := funD_of (d := ⟨("Tree", some "__and__"), "__and__", "Tree.__and__", defArgs st_Tree___and__, defBody st_Tree___and__, defScope st_Tree___and__⟩) (c.d 22) (bd 22 (by rfl))
  obtain ⟨h1, h2⟩ := He.ba (List.all_eq_true.mp b.2.2.2.1 _ hC)
  have hM := He.meth_ok h1
  rw [show He.ma K (He.ga K C) "__and__" = He.fAd K ("Tree", some "__and__") from of_decide_eq_true h2] at hM
  exact calM_mk (o.o22 C _ Fd) hM (Fd.bindsN fun _ _ _ _ _ _ us hl => by match us, hl with | [_, _], _ => rfl)

theorem rm23 {P : Program} {w : World} {K : PySem.W.Frag} {mg : Str → Option Value} {base : Heap} {k : Nat} {Γ : Gam} {h : Heap} (hf : (P.main.file : Str) = fileK) (c : SaysU Bk ds K) (X : K.In h) (G : h.Ns mainGlobals mg) (o : Oks P w K mg base k Γ) (C : Str) (hC : ((C, "__mul__", "Tree") : Str × Str × Str) ∈ Tmt) : CalM P w K mg base (He.ga K) k C "__mul__" 2 [] (Γ.m 3 C) := by
  have b := Bk_of c.b
  have bd : ∀ (i : Nat) {z : Bool}, (Bdd K)[i]? = some z → z = true := fun i z e => List.all_eq_true.mp b.2.2.1 z (List.mem_of_getElem? e)
  obtain ⟨fd23, Fd⟩ := funD_of (d := ⟨("Tree", some "__mul__"), "__mul__", "Tree.__mul__", defArgs st_Tree___mul__, defBody st_Tree___mul__, defScope st_Tree___mul__⟩) (c.d 23) (bd 23 (by rfl))
  obtain ⟨h1, h2⟩ := He.ba (List.all_eq_true.mp b.2.2.2.1 _ hC)
  have hM := He.meth_ok h1
  rw [show He.ma K (He.ga K C) "__mul__" = He.fAd K ("Tree", some "__mul__") from of_decide_eq_true h2] at hM
  exact calM_mk (o.o23 C _ Fd) hM (Fd.bindsN fun _ _ _ _ _ _ us hl => by match us, hl with | [_, _], _ => rfl)

theorem rm24 {P : Program} {w : World} {K : PySem.W.Frag} {mg : Str → Option Value} {base : Heap} {k : Nat} {Γ : Gam} {h : Heap} (hf : (P.main.file : Str) = fileK) (c : SaysU Bk ds K) (X : K.In h) (G : h.Ns mainGlobals mg) (o : Oks P w K mg base k Γ) (C : Str) (hC : ((C, "__invert__", "Tree") : Str × Str × Str) ∈ Tmt) : CalM P w K mg base (He.ga K) k C "__invert__" 1 [] (Γ.m 4 C) := by
  have b := Bk_of c.b
  have bd : ∀ (i : Nat) {z : Bool}, (Bdd K)[i]? = some z → z = true := fun i z e => List.all_eq_true.mp b.2.2.1 z (List.mem_of_getElem? e)
  obtain ⟨fd24, Fd⟩ := funD_of (d := ⟨("Tree", some "__invert__"), "__invert__", "Tree.__invert__", defArgs st_Tree___invert__, defBody st_Tree___invert__, defScope st_Tree___invert__⟩) (c.d 24) (bd 24 (by rfl))
  obtain ⟨h1, h2⟩ := He.ba (List.all_eq_true.mp b.2.2.2.1 _ hC)
  have hM := He.meth_ok h1
  rw [show He.ma K (He.ga K C) "__invert__" = He.fAd K ("Tree", some "__invert__") from of_decide_eq_true h2] at hM
  exact calM_mk (o.o24 C _ Fd) hM (Fd.bindsN fun _ _ _ _ _ _ us hl => by match us, hl with | [_], _ => rfl)

theorem rm25 {P : Program} {w : World} {K : PySem.W.Frag} {mg : Str → Option Value} {base : Heap} {k : Nat} {Γ : Gam} {h : Heap} (hf : (P.main.file : Str) = fileK) (c : SaysU Bk ds K) (X : K.In h) (G : h.Ns mainGlobals mg) (o : Oks P w K mg base k Γ) (C : Str) (hC : ((C, "__eq__", "Tree") : Str × Str × Str) ∈ Tmt) : CalM P w K mg base (He.ga K) k C "__eq__" 2 [] (Γ.m 5 C) := by
  have b := Bk_of c.b
  have bd : ∀ (i : Nat) {z : Bool}, (Bdd K)[i]? = some z → z = true := fun i z e => List.all_eq_true.mp b.2.2.1 z (List.mem_of_getElem? e)
  obtain ⟨fd25, Fd⟩ := funD_of (d := ⟨("Tree", some "__eq__"), "__eq__", "Tree.__eq__", defArgs st_Tree___eq__, defBody st_Tree___eq__, defScope st_Tree___eq__⟩) (c.d 25) (bd 25 (by rfl))
  obtain ⟨h1, h2⟩ := He.ba (List.all_eq_true.mp b.2.2.2.1 _ hC)
  have hM := He.meth_ok h1
  rw [show He.ma K (He.ga K C) "__eq__" = He.fAd K ("Tree", some "__eq__") from of_decide_eq_true h2] at hM
  exact calM_mk (o.o25 C _ Fd) hM (Fd.bindsN fun _ _ _ _ _ _ us hl => by match us, hl with | [_, _], _ => rfl)

theorem rm26 {P : Program} {w : World} {K : PySem.W.Frag} {mg : Str → Option Value} {base : Heap} {k : Nat} {Γ : Gam} {h : Heap} (hf : (P.main.file : Str) = fileK) (c : SaysU Bk ds K) (X : K.In h) (G : h.Ns mainGlobals mg) (o : Oks P w K mg base k Γ) (C : Str) (hC : ((C, "__str__", "Tree") : Str × Str × Str) ∈ Tmt) : CalM P w K mg base (He.ga K) k C "__str__" 1 [] (Γ.m 6 C) := by
  have b := Bk_of c.b
  have bd : ∀ (i : Nat) {z : Bool}, (Bdd K)[i]? = some z → z = true := fun i z e => List.all_eq_true.mp b.2.2.1 z (List.mem_of_getElem? e)
  obtain ⟨fd26, Fd⟩ := funD_of (d := ⟨("Tree", some "__str__"), "__str__", "Tree.__str__", defArgs st_Tree___str__, defBody st_Tree___str__, defScope st_Tree___str__⟩) (c.d 26) (bd 26 (by rfl))
  obtain ⟨h1, h2⟩ := He.ba (List.all_eq_true.mp b.2.2.2.1 _ hC)
  have hM := He.meth_ok h1
  rw [show He.ma K (He.ga K C) "__str__" = He.fAd K ("Tree", some "__str__") from of_decide_eq_true h2] at hM
  exact calM_mk (o.o26 C _ Fd) hM (Fd.bindsN fun _ _ _ _ _ _ us hl => by match us, hl with | [_], _ => rfl)

theorem rm27 {P : Program} {w : World} {K : PySem.W.Frag} {mg : Str → Option Value} {base : Heap} {k : Nat} {Γ : Gam} {h : Heap} (hf : (P.main.file : Str) = fileK) (c : SaysU Bk ds K) (X : K.In h) (G : h.Ns mainGlobals mg) (o : Oks P w K mg base k Γ) (C : Str) (hC : ((C, "__len__", "Tree") : Str × Str × Str) ∈ Tmt) : CalM P w K mg base (He.ga K) k C "__len__" 1 [] (Γ.m 7 C) := by
  have b := Bk_of c.b
  have bd : ∀ (i : Nat) {z : Bool}, (Bdd K)[i]? = some z → z = true := fun i z e => List.all_eq_true.mp b.2.2.1 z (List.mem_of_getElem? e)
  obtain ⟨fd27, Fd⟩ := funD_of (d := ⟨("Tree", some "__len__"), "__len__", "Tree.__len__", defArgs st_Tree___len__, defBody st_Tree___len__, defScope st_Tree___len__⟩) (c.d 27) (bd 27 (by rfl))
  obtain ⟨h1, h2⟩ := He.ba (List.all_eq_true.mp b.2.2.2.1 _ hC)
  have hM := He.meth_ok h1
  rw [show He.ma K (He.ga K C) "__len__" = He.fAd K ("Tree", some "__len__") from of_decide_eq_true h2] at hM
  exact calM_mk (o.o27 C _ Fd) hM (Fd.bindsN fun _ _ _ _ _ _ us hl => by match us, hl with | [_], _ => rfl)

theorem rm28 {P : Program} {w : World} {K : PySem.W.Frag} {mg : Str → Option Value} {base : Heap} {k : Nat} {Γ : Gam} {h : Heap} (hf : (P.main.file : Str) = fileK) (c : SaysU Bk ds K) (X : K.In h) (G : h.Ns mainGlobals mg) (o : Oks P w K mg base k Γ) (C : Str) (hC : ((C, "__getitem__", "Tree") : Str × Str × Str) ∈ Tmt) : CalM P w K mg base (He.ga K) k C "__getitem__" 2 [] (Γ.m 8 C) := by
  have b := Bk_of c.b
  have bd : ∀ (i : Nat) {z : Bool}, (Bdd K)[i]? = some z → z = true := fun i z e => List.all_eq_true.mp b.2.2.1 z (List.mem_of_getElem? e)
  obtain ⟨fd28, Fd⟩ := funD_of (d := ⟨("Tree", some "__getitem__"), "__getitem__", "Tree.__getitem__", defArgs st_Tree___getitem__, defBody st_Tree___getitem__, defScope st_Tree___getitem__⟩) (c.d 28) (bd 28 (by rfl))
  obtain ⟨h1, h2⟩ := He.ba (List.all_eq_true.mp b.2.2.2.1 _ hC)
  have hM := He.meth_ok h1
  rw [show He.ma K (He.ga K C) "__getitem__" = He.fAd K ("Tree", some "__getitem__") from of_decide_eq_true h2] at hM
  exact calM_mk (o.o28 C _ Fd) hM (Fd.bindsN fun _ _ _ _ _ _ us hl => by match us, hl with | [_, _], _ => rfl)

theorem rm29 {P : Program} {w : World} {K : PySem.W.Frag} {mg : Str → Option Value} {base : Heap} {k : Nat} {Γ : Gam} {h : Heap} (hf : (P.main.file : Str) = fileK) (c : SaysU Bk ds K) (X : K.In h) (G : h.Ns mainGlobals mg) (o : Oks P w K mg base k Γ) (C : Str) (hC : ((C, "put", "Tree") : Str × Str × Str) ∈ Tmt) : CalM P w K mg base (He.ga K) k C "put" 3 [] (Γ.m 9 C) := by
  have b := Bk_of c.b
  have bd : ∀ (i : Nat) {z : Bool}, (Bdd K)[i]? = some z → z = true := fun i z e => List.all_eq_true.mp b.2.2.1 z (List.mem_of_getElem? e)
  obtain ⟨fd29, Fd⟩ := funD_of (d := ⟨("Tree", some "put"), "put", "Tree.put", defArgs st_Tree_put, defBody st_Tree_put, defScope st_Tree_put⟩) (c.d 29) (bd 29 (by rfl))
  obtain ⟨h1, h2⟩ := He.ba (List.all_eq_true.mp b.2.2.2.1 _ hC)
  have hM := He.meth_ok h1
  rw [show He.ma K (He.ga K C) "put" = He.fAd K ("Tree", some "put") from of_decide_eq_true h2] at hM
  exact calM_mk (o.o29 C _ Fd) hM (Fd.bindsN fun _ _ _ _ _ _ us hl => by match us, hl with | [_, _, _], _ => rfl)

theorem rm30_Do {P : Program} {w : World} {K : PySem.W.Frag} {mg : Str → Option Value} {base : Heap} {k : Nat} {Γ : Gam} {h : Heap} (hf : (P.main.file : Str) = fileK) (c : SaysU Bk ds K) (X : K.In h) (G : h.Ns mainGlobals mg) (o : Oks P w K mg base k Γ) (hC : (("Do", "anew", "Tree") : Str × Str × Str) ∈ Tmt) : CalM P w K mg base (He.ga K) k "Do" "anew" 2 [] (Γ.m 10 "Do") := by
  have b := Bk_of c.b
  have bd : ∀ (i : Nat) {z : Bool}, (Bdd K)[i]? = some z → z = true := fun i z e => List.all_eq_true.mp b.2.2.1 z (List.mem_of_getElem? e)
  obtain ⟨fd30, Fd⟩ := funD_of (d := ⟨("Tree", some "anew"), "anew", "Tree.anew", defArgs st_Tree_anew, defBody st_Tree_anew, defScope st_Tree_anew⟩) (c.d 30) (bd 30 (by rfl))
  obtain ⟨h1, h2⟩ := He.ba (List.all_eq_true.mp b.2.2.2.1 _ hC)
  have hM := He.meth_ok h1
  rw [show He.ma K (He.ga K "Do") "anew" = He.fAd K ("Tree", some "anew") from of_decide_eq_true h2] at hM
  exact calM_mk (o.o30_Do _ Fd) hM (Fd.bindsN fun _ _ _ _ _ _ us hl => by match us, hl with | [_, _], _ => rfl)

theorem rm30_Ask {P : Program} {w : World} {K : PySem.W.Frag} {mg : Str → Option Value} {base : Heap} {k : Nat} {Γ : Gam} {h : Heap} (hf : (P.main.file : Str) = fileK) (c : SaysU Bk ds K) (X : K.In h) (G : h.Ns mainGlobals mg) (o : Oks P w K mg base k Γ) (hC : (("Ask", "anew", "Tree") : Str × Str × Str) ∈ Tmt) : CalM P w K mg base (He.ga K) k "Ask" "anew" 2 [] (Γ.m 10 "Ask") := by
  have b := Bk_of c.b
  have bd : ∀ (i : Nat) {z : Bool}, (Bdd K)[i]? = some z → z = true := fun i z e => List.all_eq_true.mp b.2.2.1 z (List.mem_of_getElem? e)
  obtain ⟨fd30, Fd⟩ := funD_of (d := ⟨("Tree", some "anew"), "anew", "Tree.anew", defArgs st_Tree_anew, defBody st_Tree_anew, defScope st_Tree_anew⟩) (c.d 30) (bd 30 (by rfl))
  obtain ⟨h1, h2⟩ := He.ba (List.all_eq_true.mp b.2.2.2.1 _ hC)
  have hM := He.meth_ok h1
  rw [show He.ma K (He.ga K "Ask") "anew" = He.fAd K ("Tree", some "anew") from of_decide_eq_true h2] at hM
  exact calM_mk (o.o30_Ask _ Fd) hM (Fd.bindsN fun _ _ _ _ _ _ us hl => by match us, hl with | [_, _], _ => rfl)

theorem rm31_Row {P : Program} {w : World} {K : PySem.W.Frag} {mg : Str → Option Value} {base : Heap} {k : Nat} {Γ : Gam} {h : Heap} (hf : (P.main.file : Str) = fileK) (c : SaysU Bk ds K) (X : K.In h) (G : h.Ns mainGlobals mg) (o : Oks P w K mg base k Γ) (hC : (("Row", "anew", "Row") : Str × Str × Str) ∈ Tmt) : CalM P w K mg base (He.ga K) k "Row" "anew" 2 [] (Γ.m 10 "Row") := by
  have b := Bk_of c.b
  have bd : ∀ (i : Nat) {z : Bool}, (Bdd K)[i]? = some z → z = true := fun i z e => List.all_eq_true.mp b.2.2.1 z (List.mem_of_getElem? e)
  obtain ⟨fd31, Fd⟩ := funD_of (d := ⟨("Row", some "anew"), "anew", "Row.anew", defArgs st_Row_anew, defBody st_Row_anew, defScope st_Row_anew⟩) (c.d 31) (bd 31 (by rfl))
  obtain ⟨h1, h2⟩ := He.ba (List.all_eq_true.mp b.2.2.2.1 _ hC)
  have hM := He.meth_ok h1
  rw [show He.ma K (He.ga K "Row") "anew" = He.fAd K ("Row", some "anew") from of_decide_eq_true h2] at hM
  exact calM_mk (o.o31_Row _ Fd) hM (Fd.bindsN fun _ _ _ _ _ _ us hl => by match us, hl with | [_, _], _ => rfl)

theorem rm32_First {P : Program} {w : World} {K : PySem.W.Frag} {mg : Str → Option Value} {base : Heap} {k : Nat} {Γ : Gam} {h : Heap} (hf : (P.main.file : Str) = fileK) (c : SaysU Bk ds K) (X : K.In h) (G : h.Ns mainGlobals mg) (o : Oks P w K mg base k Γ) (hC : (("First", "anew", "First") : Str × Str × Str) ∈ Tmt) : CalM P w K mg base (He.ga K) k "First" "anew" 2 [] (Γ.m 10 "First") := by
  have b := Bk_of c.b
  have bd : ∀ (i : Nat) {z : Bool}, (Bdd K)[i]? = some z → z = true := fun i z e => List.all_eq_true.mp b.2.2.1 z (List.mem_of_getElem? e)
  obtain ⟨fd32, Fd⟩ := funD_of (d := ⟨("First", some "anew"), "anew", "First.anew", defArgs st_First_anew, defBody st_First_anew, defScope st_First_anew⟩) (c.d 32) (bd 32 (by rfl))
  obtain ⟨h1, h2⟩ := He.ba (List.all_eq_true.mp b.2.2.2.1 _ hC)
  have hM := He.meth_ok h1
  rw [show He.ma K (He.ga K "First") "anew" = He.fAd K ("First", some "anew") from of_decide_eq_true h2] at hM
  exact calM_mk (o.o32_First _ Fd) hM (Fd.bindsN fun _ _ _ _ _ _ us hl => by match us, hl with | [_, _], _ => rfl)

theorem rm33_Beside {P : Program} {w : World} {K : PySem.W.Frag} {mg : Str → Option Value} {base : Heap} {k : Nat} {Γ : Gam} {h : Heap} (hf : (P.main.file : Str) = fileK) (c : SaysU Bk ds K) (X : K.In h) (G : h.Ns mainGlobals mg) (o : Oks P w K mg base k Γ) (hC : (("Beside", "anew", "Beside") : Str × Str × Str) ∈ Tmt) : CalM P w K mg base (He.ga K) k "Beside" "anew" 2 [] (Γ.m 10 "Beside") := by
  have b := Bk_of c.b
  have bd : ∀ (i : Nat) {z : Bool}, (Bdd K)[i]? = some z → z = true := fun i z e => List.all_eq_true.mp b.2.2.1 z (List.mem_of_getElem? e)
  obtain ⟨fd33, Fd⟩ := funD_of (d := ⟨("Beside", some "anew"), "anew", "Beside.anew", defArgs st_Beside_anew, defBody st_Beside_anew, defScope st_Beside_anew⟩) (c.d 33) (bd 33 (by rfl))
  obtain ⟨h1, h2⟩ := He.ba (List.all_eq_true.mp b.2.2.2.1 _ hC)
  have hM := He.meth_ok h1
  rw [show He.ma K (He.ga K "Beside") "anew" = He.fAd K ("Beside", some "anew") from of_decide_eq_true h2] at hM
  exact calM_mk (o.o33_Beside _ Fd) hM (Fd.bindsN fun _ _ _ _ _ _ us hl => by match us, hl with | [_, _], _ => rfl)

theorem rm34_Again {P : Program} {w : World} {K : PySem.W.Frag} {mg : Str → Option Value} {base : Heap} {k : Nat} {Γ : Gam} {h : Heap} (hf : (P.main.file : Str) = fileK) (c : SaysU Bk ds K) (X : K.In h) (G : h.Ns mainGlobals mg) (o : Oks P w K mg base k Γ) (hC : (("Again", "anew", "Again") : Str × Str × Str) ∈ Tmt) : CalM P w K mg base (He.ga K) k "Again" "anew" 2 [] (Γ.m 10 "Again") := by
  have b := Bk_of c.b
  have bd : ∀ (i : Nat) {z : Bool}, (Bdd K)[i]? = some z → z = true := fun i z e => List.all_eq_true.mp b.2.2.1 z (List.mem_of_getElem? e)
  obtain ⟨fd34, Fd⟩ := funD_of (d := ⟨("Again", some "anew"), "anew", "Again.anew", defArgs st_Again_anew, defBody st_Again_anew, defScope st_Again_anew⟩) (c.d 34) (bd 34 (by rfl))
  obtain ⟨h1, h2⟩ := He.ba (List.all_eq_true.mp b.2.2.2.1 _ hC)
  have hM := He.meth_ok h1
  rw [show He.ma K (He.ga K "Again") "anew" = He.fAd K ("Again", some "anew") from of_decide_eq_true h2] at hM
  exact calM_mk (o.o34_Again _ Fd) hM (Fd.bindsN fun _ _ _ _ _ _ us hl => by match us, hl with | [_, _], _ => rfl)

theorem rm35_While {P : Program} {w : World} {K : PySem.W.Frag} {mg : Str → Option Value} {base : Heap} {k : Nat} {Γ : Gam} {h : Heap} (hf : (P.main.file : Str) = fileK) (c : SaysU Bk ds K) (X : K.In h) (G : h.Ns mainGlobals mg) (o : Oks P w K mg base k Γ) (hC : (("While", "anew", "While") : Str × Str × Str) ∈ Tmt) : CalM P w K mg base (He.ga K) k "While" "anew" 2 [] (Γ.m 10 "While") := by
  have b := Bk_of c.b
  have bd : ∀ (i : Nat) {z : Bool}, (Bdd K)[i]? = some z → z = true := fun i z e => List.all_eq_true.mp b.2.2.1 z (List.mem_of_getElem? e)
  obtain ⟨fd35, Fd⟩ := funD_of (d := ⟨("While", some "anew"), "anew", "While.anew", defArgs st_While_anew, defBody st_While_anew, defScope st_While_anew⟩) (c.d 35) (bd 35 (by rfl))
  obtain ⟨h1, h2⟩ := He.ba (List.all_eq_true.mp b.2.2.2.1 _ hC)
  have hM := He.meth_ok h1
  rw [show He.ma K (He.ga K "While") "anew" = He.fAd K ("While", some "anew") from of_decide_eq_true h2] at hM
  exact calM_mk (o.o35_While _ Fd) hM (Fd.bindsN fun _ _ _ _ _ _ us hl => by match us, hl with | [_, _], _ => rfl)

theorem rm36_If {P : Program} {w : World} {K : PySem.W.Frag} {mg : Str → Option Value} {base : Heap} {k : Nat} {Γ : Gam} {h : Heap} (hf : (P.main.file : Str) = fileK) (c : SaysU Bk ds K) (X : K.In h) (G : h.Ns mainGlobals mg) (o : Oks P w K mg base k Γ) (hC : (("If", "anew", "If") : Str × Str × Str) ∈ Tmt) : CalM P w K mg base (He.ga K) k "If" "anew" 2 [] (Γ.m 10 "If") := by
  have b := Bk_of c.b
  have bd : ∀ (i : Nat) {z : Bool}, (Bdd K)[i]? = some z → z = true := fun i z e => List.all_eq_true.mp b.2.2.1 z (List.mem_of_getElem? e)
  obtain ⟨fd36, Fd⟩ := funD_of (d := ⟨("If", some "anew"), "anew", "If.anew", defArgs st_If_anew, defBody st_If_anew, defScope st_If_anew⟩) (c.d 36) (bd 36 (by rfl))
  obtain ⟨h1, h2⟩ := He.ba (List.all_eq_true.mp b.2.2.2.1 _ hC)
  have hM := He.meth_ok h1
  rw [show He.ma K (He.ga K "If") "anew" = He.fAd K ("If", some "anew") from of_decide_eq_true h2] at hM
  exact calM_mk (o.o36_If _ Fd) hM (Fd.bindsN fun _ _ _ _ _ _ us hl => by match us, hl with | [_, _], _ => rfl)

theorem rm37_Not {P : Program} {w : World} {K : PySem.W.Frag} {mg : Str → Option Value} {base : Heap} {k : Nat} {Γ : Gam} {h : Heap} (hf : (P.main.file : Str) = fileK) (c : SaysU Bk ds K) (X : K.In h) (G : h.Ns mainGlobals mg) (o : Oks P w K mg base k Γ) (hC : (("Not", "anew", "Not") : Str × Str × Str) ∈ Tmt) : CalM P w K mg base (He.ga K) k "Not" "anew" 2 [] (Γ.m 10 "Not") := by
  have b := Bk_of c.b
  have bd : ∀ (i : Nat) {z : Bool}, (Bdd K)[i]? = some z → z = true := fun i z e => List.all_eq_true.mp b.2.2.1 z (List.mem_of_getElem? e)
  obtain ⟨fd37, Fd⟩ := funD_of (d := ⟨("Not", some "anew"), "anew", "Not.anew", defArgs st_Not_anew, defBody st_Not_anew, defScope st_Not_anew⟩) (c.d 37) (bd 37 (by rfl))
  obtain ⟨h1, h2⟩ := He.ba (List.all_eq_true.mp b.2.2.2.1 _ hC)
  have hM := He.meth_ok h1
  rw [show He.ma K (He.ga K "Not") "anew" = He.fAd K ("Not", some "anew") from of_decide_eq_true h2] at hM
  exact calM_mk (o.o37_Not _ Fd) hM (Fd.bindsN fun _ _ _ _ _ _ us hl => by match us, hl with | [_, _], _ => rfl)

theorem rm38_Always {P : Program} {w : World} {K : PySem.W.Frag} {mg : Str → Option Value} {base : Heap} {k : Nat} {Γ : Gam} {h : Heap} (hf : (P.main.file : Str) = fileK) (c : SaysU Bk ds K) (X : K.In h) (G : h.Ns mainGlobals mg) (o : Oks P w K mg base k Γ) (hC : (("Always", "anew", "Always") : Str × Str × Str) ∈ Tmt) : CalM P w K mg base (He.ga K) k "Always" "anew" 2 [] (Γ.m 10 "Always") := by
  have b := Bk_of c.b
  have bd : ∀ (i : Nat) {z : Bool}, (Bdd K)[i]? = some z → z = true := fun i z e => List.all_eq_true.mp b.2.2.1 z (List.mem_of_getElem? e)
  obtain ⟨fd38, Fd⟩ := funD_of (d := ⟨("Always", some "anew"), "anew", "Always.anew", defArgs st_Always_anew, defBody st_Always_anew, defScope st_Always_anew⟩) (c.d 38) (bd 38 (by rfl))
  obtain ⟨h1, h2⟩ := He.ba (List.all_eq_true.mp b.2.2.2.1 _ hC)
  have hM := He.meth_ok h1
  rw [show He.ma K (He.ga K "Always") "anew" = He.fAd K ("Always", some "anew") from of_decide_eq_true h2] at hM
  exact calM_mk (o.o38_Always _ Fd) hM (Fd.bindsN fun _ _ _ _ _ _ us hl => by match us, hl with | [_, _], _ => rfl)

theorem allC {α : Type} {P : α → Prop} {a : α} {l : List α} (h : P a) (t : ∀ p ∈ l, P p) : ∀ p ∈ a :: l, P p := fun p hp => by
  rcases List.mem_cons.mp hp with e | hp
  · rw [e]
    exact h
  · exact t p hp
theorem hy_of {P : Program} {w : World} {K : PySem.W.Frag} {mg : Str → Option Value} {base : Heap} {k : Nat} {Γ : Gam} {h : Heap} (hf : (P.main.file : Str) = fileK) (c : SaysU Bk ds K) (X : K.In h) (G : h.Ns mainGlobals mg) (o : Oks P w K mg base k Γ) : Hy P w K mg base (He.ga K) k Tx Γ :=
  ⟨(allC (rf0 hf c X G o) (allC (rf1 hf c X G o) (allC (rf2 hf c X G o) (allC (rf3 hf c X G o) (allC (rf4 hf c X G o) (allC (rf5 hf c X G o) (allC (rf6 hf c X G o) (allC (rf7 hf c X G o) (allC (rf8 hf c X G o) (allC (rf9 hf c X G o) (allC (rf10 hf c X G o) (allC (rf11 hf c X G o) (allC (rf12 hf c X G o) (allC (rf13 hf c X G o) (allC (rf14 hf c X G o) (allC (rf15 hf c X G o) (allC (rf16 hf c X G o) (allC (rf17 hf c X G o) (allC (rf18 hf c X G o) (allC (rf19 hf c X G o) (allC (rf20 hf c X G o) (by intro p hp; cases hp)))))))))))))))))))))), (allC (ri0 hf c X G o) (allC (ri1 hf c X G o) (allC (ri2 hf c X G o) (allC (ri3 hf c X G o) (allC (ri4 hf c X G o) (allC (ri5 hf c X G o) (allC (ri6 hf c X G o) (allC (ri7 hf c X G o) (allC (ri8 hf c X G o) (allC (ri9 hf c X G o) (allC (ri10 hf c X G o) (allC (ri11 hf c X G o) (by intro p hp; cases hp))))))))))))), (allC (rm20 hf c X G o "Do" (by decide)) (allC (rm20 hf c X G o "Ask" (by decide)) (allC (rm20 hf c X G o "Row" (by decide)) (allC (rm20 hf c X G o "First" (by decide)) (allC (rm20 hf c X G o "Beside" (by decide)) (allC (rm20 hf c X G o "Again" (by decide)) (allC (rm20 hf c X G o "While" (by decide)) (allC (rm20 hf c X G o "If" (by decide)) (allC (rm20 hf c X G o "Not" (by decide)) (allC (rm20 hf c X G o "Always" (by decide)) (allC (rm21 hf c X G o "Do" (by decide)) (allC (rm21 hf c X G o "Ask" (by decide)) (allC (rm21 hf c X G o "Row" (by decide)) (allC (rm21 hf c X G o "First" (by decide)) (allC (rm21 hf c X G o "Beside" (by decide)) (allC (rm21 hf c X G o "Again" (by decide)) (allC (rm21 hf c X G o "While" (by decide)) (allC (rm21 hf c X G o "If" (by decide)) (allC (rm21 hf c X G o "Not" (by decide)) (allC (rm21 hf c X G o "Always" (by decide)) (allC (rm22 hf c X G o "Do" (by decide)) (allC (rm22 hf c X G o "Ask" (by decide)) (allC (rm22 hf c X G o "Row" (by decide)) (allC (rm22 hf c X G o "First" (by decide)) (allC (rm22 hf c X G o "Beside" (by decide)) (allC (rm22 hf c X G o "Again" (by decide)) (allC (rm22 hf c X G o "While" (by decide)) (allC (rm22 hf c X G o "If" (by decide)) (allC (rm22 hf c X G o "Not" (by decide)) (allC (rm22 hf c X G o "Always" (by decide)) (allC (rm23 hf c X G o "Do" (by decide)) (allC (rm23 hf c X G o "Ask" (by decide)) (allC (rm23 hf c X G o "Row" (by decide)) (allC (rm23 hf c X G o "First" (by decide)) (allC (rm23 hf c X G o "Beside" (by decide)) (allC (rm23 hf c X G o "Again" (by decide)) (allC (rm23 hf c X G o "While" (by decide)) (allC (rm23 hf c X G o "If" (by decide)) (allC (rm23 hf c X G o "Not" (by decide)) (allC (rm23 hf c X G o "Always" (by decide)) (allC (rm24 hf c X G o "Do" (by decide)) (allC (rm24 hf c X G o "Ask" (by decide)) (allC (rm24 hf c X G o "Row" (by decide)) (allC (rm24 hf c X G o "First" (by decide)) (allC (rm24 hf c X G o "Beside" (by decide)) (allC (rm24 hf c X G o "Again" (by decide)) (allC (rm24 hf c X G o "While" (by decide)) (allC (rm24 hf c X G o "If" (by decide)) (allC (rm24 hf c X G o "Not" (by decide)) (allC (rm24 hf c X G o "Always" (by decide)) (allC (rm25 hf c X G o "Do" (by decide)) (allC (rm25 hf c X G o "Ask" (by decide)) (allC (rm25 hf c X G o "Row" (by decide)) (allC (rm25 hf c X G o "First" (by decide)) (allC (rm25 hf c X G o "Beside" (by decide)) (allC (rm25 hf c X G o "Again" (by decide)) (allC (rm25 hf c X G o "While" (by decide)) (allC (rm25 hf c X G o "If" (by decide)) (allC (rm25 hf c X G o "Not" (by decide)) (allC (rm25 hf c X G o "Always" (by decide)) (allC (rm26 hf c X G o "Do" (by decide)) (allC (rm26 hf c X G o "Ask" (by decide)) (allC (rm26 hf c X G o "Row" (by decide)) (allC (rm26 hf c X G o "First" (by decide)) (allC (rm26 hf c X G o "Beside" (by decide)) (allC (rm26 hf c X G o "Again" (by decide)) (allC (rm26 hf c X G o "While" (by decide)) (allC (rm26 hf c X G o "If" (by decide)) (allC (rm26 hf c X G o "Not" (by decide)) (allC (rm26 hf c X G o "Always" (by decide)) (allC (rm27 hf c X G o "Do" (by decide)) (allC (rm27 hf c X G o "Ask" (by decide)) (allC (rm27 hf c X G o "Row" (by decide)) (allC (rm27 hf c X G o "First" (by decide)) (allC (rm27 hf c X G o "Beside" (by decide)) (allC (rm27 hf c X G o "Again" (by decide)) (allC (rm27 hf c X G o "While" (by decide)) (allC (rm27 hf c X G o "If" (by decide)) (allC (rm27 hf c X G o "Not" (by decide)) (allC (rm27 hf c X G o "Always" (by decide)) (allC (rm28 hf c X G o "Do" (by decide)) (allC (rm28 hf c X G o "Ask" (by decide)) (allC (rm28 hf c X G o "Row" (by decide)) (allC (rm28 hf c X G o "First" (by decide)) (allC (rm28 hf c X G o "Beside" (by decide)) (allC (rm28 hf c X G o "Again" (by decide)) (allC (rm28 hf c X G o "While" (by decide)) (allC (rm28 hf c X G o "If" (by decide)) (allC (rm28 hf c X G o "Not" (by decide)) (allC (rm28 hf c X G o "Always" (by decide)) (allC (rm29 hf c X G o "Do" (by decide)) (allC (rm29 hf c X G o "Ask" (by decide)) (allC (rm29 hf c X G o "Row" (by decide)) (allC (rm29 hf c X G o "First" (by decide)) (allC (rm29 hf c X G o "Beside" (by decide)) (allC (rm29 hf c X G o "Again" (by decide)) (allC (rm29 hf c X G o "While" (by decide)) (allC (rm29 hf c X G o "If" (by decide)) (allC (rm29 hf c X G o "Not" (by decide)) (allC (rm29 hf c X G o "Always" (by decide)) (allC (rm30_Do hf c X G o (by decide)) (allC (rm30_Ask hf c X G o (by decide)) (allC (rm31_Row hf c X G o (by decide)) (allC (rm32_First hf c X G o (by decide)) (allC (rm33_Beside hf c X G o (by decide)) (allC (rm34_Again hf c X G o (by decide)) (allC (rm35_While hf c X G o (by decide)) (allC (rm36_If hf c X G o (by decide)) (allC (rm37_Not hf c X G o (by decide)) (allC (rm38_Always hf c X G o (by decide)) (by intro p hp; cases hp)))))))))))))))))))))))))))))))))))))))))))))))))))))))))))))))))))))))))))))))))))))))))))))))))))))))))))))))⟩
theorem oks_all {P : Program} {w : World} {K : PySem.W.Frag} {mg : Str → Option Value} {base : Heap} {h : Heap} (hf : (P.main.file : Str) = fileK) (top : (P.main.scope.names.lookup ("super" : Str)).isSome = false) (c : SaysU Bk ds K) (X : K.In h) (G : h.Ns mainGlobals mg) : ∀ k : Nat, Oks P w K mg base (4 * k) (Sv k) := by
  have b := Bk_of c.b
  have bd : ∀ (i : Nat) {z : Bool}, (Bdd K)[i]? = some z → z = true := fun i z e => List.all_eq_true.mp b.2.2.1 z (List.mem_of_getElem? e)
  have hF := Fx_of X G b.1
  have hX := Ox_of b.2.1
  have b8 : (Ts.all fun C => supFB K "Tree" C) = true := (by have z := b.2.2.2.2.2.2.2; simp only [Bool.and_eq_true] at z; exact z.1.1)
  have bget : getB K Tt = true := by have z := b.2.2.2.2.2.2.2; simp only [Bool.and_eq_true] at z; exact z.2
  intro k
  induction k with
  | zero => exact oks0
  | succ k ih =>
    exact oksS hF hX (getT_of bget) (hy_of hf c X G ih) fun C hC => by
      obtain ⟨fd, Fd⟩ := funD_of (d := ⟨("Tree", some "__init__"), "__init__", "Tree.__init__", defArgs st_Tree___init__, defBody st_Tree___init__, defScope st_Tree___init__⟩) (c.d 39) (bd 39 (by rfl))
      exact sup_of (b := "Tree") (List.all_eq_true.mp b8 C hC) top (hF.nog _ (by decide)) (ih.o39 _ Fd) rfl (Fd.bindsN fun _ _ _ _ _ _ us hl => by match us, hl with | [_, _, _, _], _ => rfl)
end Sm

namespace Sm
open PySem PySem.Spec PyProof.Rows L2
def loose0 : List PySem.Str := [PySem.Str.ofString "_wall", PySem.Str.ofString "__name__", PySem.Str.ofString "TreeError", PySem.Str.ofString "InvalidTree", PySem.Str.ofString "NoNode", PySem.Str.ofString "Unanswered", PySem.Str.ofString "fresh_item", PySem.Str.ofString "fresh", PySem.Str.ofString "parts_of", PySem.Str.ofString "told_by", PySem.Str.ofString "ticked", PySem.Str.ofString "ended_as", PySem.Str.ofString "ticked_action", PySem.Str.ofString "ticked_anew", PySem.Str.ofString "ticked_kept", PySem.Str.ofString "ticked_beside", PySem.Str.ofString "ticked_again", PySem.Str.ofString "ticked_guard", PySem.Str.ofString "halted_all", PySem.Str.ofString "answers_of", PySem.Str.ofString "Played", PySem.Str.ofString "gone", PySem.Str.ofString "play", PySem.Str.ofString "LETTERS", PySem.Str.ofString "is_integer", PySem.Str.ofString "is_name", PySem.Str.ofString "is_sequence", PySem.Str.ofString "need_name", PySem.Str.ofString "need_part", PySem.Str.ofString "checked_parts", PySem.Str.ofString "lines_of", PySem.Str.ofString "Tree", PySem.Str.ofString "Do", PySem.Str.ofString "Ask", PySem.Str.ofString "Row", PySem.Str.ofString "First", PySem.Str.ofString "Beside", PySem.Str.ofString "Again", PySem.Str.ofString "While", PySem.Str.ofString "If"]
def loose1 : List PySem.Str := [PySem.Str.ofString "Not", PySem.Str.ofString "Always", PySem.Str.ofString "_law_deal", PySem.Str.ofString "_law_draw", PySem.Str.ofString "_law_pick", PySem.Str.ofString "_law_name", PySem.Str.ofString "_law_kids", PySem.Str.ofString "_law_grown", PySem.Str.ofString "_law_blocks", PySem.Str.ofString "_law_head", PySem.Str.ofString "_law_script", PySem.Str.ofString "_law_nodes", PySem.Str.ofString "_law_make", PySem.Str.ofString "_law_ends"]
def looseA : List PySem.Str := loose0 ++ loose1
def asK : List Addr := ([3, 2, 235, 240, 247, 254, 261, 266, 275, 399, 422, 443, 472, 501, 529, 558, 586, 614, 642, 670, 677, 684, 691, 696, 701, 708, 715, 722, 729, 736] : List Addr) ++ ([741, 748, 753, 234, 239, 246, 253, 260, 265, 274, 268, 398, 421, 442, 471, 500, 528, 557, 585, 613, 641, 669, 676, 683, 690, 695, 700, 707, 714, 721] : List Addr) ++ ([728, 735, 740, 747, 752, 267, 289, 312, 319, 333, 340, 347, 354, 361, 368, 375, 389, 396, 419, 440, 462, 469, 491, 498, 519, 526, 548, 555, 576, 583] : List Addr) ++ ([604, 611, 632, 639, 660, 667, 288, 311, 318, 332, 339, 346, 353, 360, 367, 374, 388, 395, 418, 407, 439, 428, 461, 454, 449, 468, 490, 483, 478, 497] : List Addr) ++ ([518, 507, 525, 547, 540, 535, 554, 575, 564, 582, 603, 592, 610, 631, 620, 638, 659, 648, 666] : List Addr)
abbrev hk : PySem.W.Hook := hookA asK Bk ds
def ob (s : PySem.W.SharedT) : AlU := obsAG asK Bk ds (HandSHeadRun.getT s)
theorem ob_eq (s : PySem.W.SharedT) : ob s = hk.obs s.abs := obsAG_eq (HandSHeadRun.getT_eq s)
theorem run_f (w : World) : HandSHeadRun.RunEq Rw (PySem.W.view Rw.prog [59]) hk ob 20000 looseA (w.withFollow "special-get-raises" false) := by
  intro os
  kernel_rfl
theorem run_t (w : World) : HandSHeadRun.RunEq Rw (PySem.W.view Rw.prog [59]) hk ob 20000 looseA (w.withFollow "special-get-raises" true) := by
  intro os
  kernel_rfl
end Sm

namespace Pl
open PySem PySem.Spec PyProof.Rows L2 Sm
theorem le_size (n : Nat) : (n ≤ sizeLine) = (n ≤ 16777216) := rfl
theorem lt_size (n : Nat) : (n < sizeLine) = (n < 16777216) := rfl
inductive T where
  | leaf (d : Bool) (x : Str)
  | many (r kept : Bool) (ks : List T)
  | beside (n : Int) (ks : List T)
  | again (r : Option Int) (t : T)
  | grd (w : Bool) (x : Str) (t : T)
  | nt (t : T)
  | alw (w : Bool) (t : T)
def kids : T → List T
  | .leaf _ _ => []
  | .many _ _ ks => ks
  | .beside _ ks => ks
  | .again _ t => [t]
  | .grd _ _ t => [t]
  | .nt t => [t]
  | .alw _ t => [t]
def isLong : T → Bool
  | .many _ _ _ => true
  | .beside _ _ => true
  | _ => false
def zD (d : Bool) : Str := if d then "do" else "ask"
def zR (d : Bool) : Str := if d then "row" else "first"
def zW (d : Bool) : Str := if d then "while" else "if"
def zA (d : Bool) : Str := if d then "well" else "ill"
def hd : T → Str
  | .leaf d x => zD d ++ (" " : Str) ++ x
  | .many r k _ => zR r ++ (if k then (" kept" : Str) else "")
  | .beside n _ => ("beside" : Str) ++ (" " : Str) ++ (toString n : String)
  | .again none _ => "again"
  | .again (some r) _ => ("again" : Str) ++ (" " : Str) ++ (toString r : String)
  | .grd w x _ => zW w ++ (" " : Str) ++ x
  | .nt _ => "not"
  | .alw w _ => ("always" : Str) ++ (" " : Str) ++ zA w
mutual
def lns : T → List Str
  | .leaf d x => [hd (.leaf d x)]
  | .many r k ks => hd (.many r k ks) :: (lnsL ks ++ [("end" : Str)])
  | .beside n ks => hd (.beside n ks) :: (lnsL ks ++ [("end" : Str)])
  | .again r t => hd (.again r t) :: lns t
  | .grd w x t => hd (.grd w x t) :: lns t
  | .nt t => hd (.nt t) :: lns t
  | .alw w t => hd (.alw w t) :: lns t
def lnsL : List T → List Str
  | [] => []
  | t :: r => lns t ++ lnsL r
end
def tn : T → Str
  | .leaf d _ => if d then "Do" else "Ask"
  | .many r _ _ => if r then "Row" else "First"
  | .beside _ _ => "Beside"
  | .again _ _ => "Again"
  | .grd w _ _ => if w then "While" else "If"
  | .nt _ => "Not"
  | .alw _ _ => "Always"
def opI : Option Int → W
  | none => .non
  | some i => .int i
def lw (ls : List Str) : W := .tup (ls.map .str)
mutual
def tw : T → W
  | .leaf true x => .tree "Do" ["form", "blocks", "script", "nodes", "action"] [.str "do", .tup [], lw (lns (.leaf true x)), .non, .str x] []
  | .leaf false x => .tree "Ask" ["form", "blocks", "script", "nodes", "question"] [.str "ask", .tup [], lw (lns (.leaf false x)), .non, .str x] []
  | .many true k ks => .tree "Row" ["parts", "form", "blocks", "script", "nodes", "kept"] [.tup (twL ks), .str "row", .tup (twL ks), lw (lns (.many true k ks)), .non, .bl k] (twL ks)
  | .many false k ks => .tree "First" ["parts", "form", "blocks", "script", "nodes", "kept"] [.tup (twL ks), .str "first", .tup (twL ks), lw (lns (.many false k ks)), .non, .bl k] (twL ks)
  | .beside n ks => .tree "Beside" ["parts", "form", "blocks", "script", "nodes", "needed"] [.tup (twL ks), .str "beside", .tup (twL ks), lw (lns (.beside n ks)), .non, .int n] (twL ks)
  | .again r t => .tree "Again" ["form", "blocks", "script", "nodes", "part", "rounds"] [.str "again", .tup [tw t], lw (lns (.again r t)), .non, tw t, opI r] [tw t]
  | .grd true x t => .tree "While" ["form", "blocks", "script", "nodes", "question", "part"] [.str "while", .tup [tw t], lw (lns (.grd true x t)), .non, .str x, tw t] [tw t]
  | .grd false x t => .tree "If" ["form", "blocks", "script", "nodes", "question", "part"] [.str "if", .tup [tw t], lw (lns (.grd false x t)), .non, .str x, tw t] [tw t]
  | .nt t => .tree "Not" ["form", "blocks", "script", "nodes", "part"] [.str "not", .tup [tw t], lw (lns (.nt t)), .non, tw t] [tw t]
  | .alw w t => .tree "Always" ["form", "blocks", "script", "nodes", "word", "part"] [.str "always", .tup [tw t], lw (lns (.alw w t)), .non, .str (zA w), tw t] [tw t]
def twL : List T → List W
  | [] => []
  | t :: r => tw t :: twL r
end
theorem fld_script (t : T) (m : Sto) : fldW Tx.ats "script" (tw t) m = some (lw (lns t)) := by
  cases t with
  | leaf d x => cases d <;> (unfold tw; rfl)
  | many d x => cases d <;> (unfold tw; rfl)
  | grd d x => cases d <;> (unfold tw; rfl)
  | _ => unfold tw; rfl
theorem lines_loop (m : Sto) (v0 v1 v2 : Sl) : ∀ (bs : List T) (acc : List W) (u : Sl), acc.length + (lnsL bs).length ≤ sizeLine →
    ∃ u', forW (bName 4) (sExt 3 (op1 (fldW Tx.ats "script") (rVar 4))) (twL bs) [v0, v1, v2, .own (.lst acc), u] m = .ok (.nx [v0, v1, v2, .own (.lst (acc ++ (lnsL bs).map .str)), u']) m
  | [], acc, u, h => ⟨u, by simp [forW, twL, lnsL, sNil]⟩
  | t :: bs, acc, u, h => by
    have hz : acc.length + (lns t).length ≤ sizeLine := by
      simp [lnsL] at h
      omega
    obtain ⟨u', e⟩ := lines_loop m v0 v1 v2 bs (acc ++ (lns t).map .str) (.val (tw t)) (by simp [lnsL] at h ⊢; omega)
    refine ⟨u', ?_⟩
    simp only [forW, twL, lnsL, bName, sExt, List.set_cons_succ, List.set_cons_zero, List.getElem?_cons_succ, List.getElem?_cons_zero, op1, bnd, rVar, fld_script, lift, exS, lw, List.length_map, hz, if_true, List.map_append]
    rw [e]
    simp
end Pl

namespace Pl
open PySem PySem.Spec PyProof.Rows L2 Sm
abbrev LET : Str := "abcdefghijklmnopqrstuvwxyz"
def isL (c : Nat) : Bool := !(Builtin.Str.occurrences LET ⟨#[c]⟩ 0 LET.length 1).isEmpty
/-- a name -/
structure Nm (x : Str) : Prop where
  lo : 1 ≤ x.length
  hi : x.length ≤ 4
  all : ∀ c ∈ x.cps.toList, 97 ≤ c ∧ c ≤ 122
theorem isL_all : ∀ i : Fin 26, isL (97 + i.val) = true := by decide +kernel
theorem isL_of {c : Nat} (h : 97 ≤ c ∧ c ≤ 122) : isL c = true := by
  have e := isL_all ⟨c - 97, by omega⟩
  rwa [show 97 + (c - 97) = c by omega] at e
theorem Nm.isl {x : Str} (h : Nm x) : ∀ c ∈ x.cps.toList, isL c = true := fun c hc => isL_of (h.all c hc)
theorem isi_str (x : Str) (m : Sto) : isiW Tx.tc Tx.kt [.str x, .ty "str"] m = some (.bl true) := by rfl
theorem isi_int (x : Int) (m : Sto) : isiW Tx.tc Tx.kt [.int x, .ty "int"] m = some (.bl true) := by rfl
theorem isi_intb (x : Int) (m : Sto) : isiW Tx.tc Tx.kt [.int x, .ty "bool"] m = some (.bl false) := by rfl
theorem isi_bool (x : Bool) (m : Sto) : isiW Tx.tc Tx.kt [.bl x, .ty "bool"] m = some (.bl true) := by rfl
theorem isi_seqL (x : List W) (m : Sto) : isiW Tx.tc Tx.kt [.lst x, .tup [.ty "list", .ty "tuple"]] m = some (.bl true) := by rfl
theorem isi_seqT (x : List W) (m : Sto) : isiW Tx.tc Tx.kt [.tup x, .tup [.ty "list", .ty "tuple"]] m = some (.bl true) := by rfl
theorem isi_tree (t : T) (m : Sto) : isiW Tx.tc Tx.kt [tw t, .cls "Tree"] m = some (.bl true) := by
  cases t with
  | leaf d x => cases d <;> (unfold tw; rfl)
  | many d x => cases d <;> (unfold tw; rfl)
  | grd d x => cases d <;> (unfold tw; rfl)
  | _ => unfold tw; rfl
theorem is_int_ok (k : Nat) (i : Int) (m : Sto) : (Sv (k + 1)).f 0 [.int i] m = .ok (.bl true) m := by
  rw [Sf_is_integer]
  simp (decide := true) only [runB, runI, bnd, lift, exS, sSeq, sSeqF, sNil, sSet, sSetN, sSetL, sIf, sRet, sRetN, sExp, sFor, sExt, sApp, sFrz, sPar, sPar3, sUnp, sSetIx, sBrk, sCnt, eVar, rVar, eC, op1, op2, eCall, eNew, aCons, aNil, aStar, eTup, eL, nLst, nRev, nLc, eBlt, eIf, eAnd, eOr, eNotV, tTru, tBl, tNt, tAn, tOrr, tYesM, truW, blW, eChain, iSeq, itW, iRng, bName, bTup, bAll, eMt, ePush, eJoin, jsW, e1M, e2M, sAug, sSup, sFldS, sTree, wipeS, lenW, tupleW, frzb, toW, clsO, eSl, oSome, oNone, Sm.ret, Sm.bad, List.map_cons, List.map_nil, List.length_cons, List.length_nil, List.cons_append, List.nil_append, List.append_nil, List.replicate_succ, List.replicate_zero, List.set_cons_succ, List.set_cons_zero, List.getElem?_cons_succ, List.getElem?_cons_zero, List.length_append, List.length_map, if_true, if_false, reduceIte, Bool.true_and, Bool.and_true, Bool.not_true, Bool.not_false, Option.map_some, Option.map_none, Option.bind_some, Option.bind_none, le_size, lt_size, Nat.reduceLeDiff, Nat.reduceAdd, Nat.reduceSub, Nat.reducePow, Nat.zero_add, decide_eq_true_eq, Nat.reduceLT, gt_iff_lt, ge_iff_le, decide_true, decide_false, Bool.false_eq_true, Bool.or_true, Bool.true_or, Bool.or_false, Bool.false_or, Bool.false_and, Bool.and_false, or_true, true_or, and_true, true_and, or_false, false_or, and_false, false_and, and_self, not_false_eq_true, not_true_eq_false, b_is_integer, N_is_integer, isi_int, isi_intb]
theorem name_loop (m : Sto) (v0 v1 : Sl) : ∀ (cs : List Nat), (∀ c ∈ cs, isL c = true) → lcM (bName 1) tYesM (op2 inW (rVar 1) (eC (.str LET))) [v0, v1] (cs.map fun c => .str ⟨#[c]⟩) m = .ok (List.replicate cs.length (.bl true)) m
  | [], _ => rfl
  | c :: cs, h => by
    have e : inW (.str ⟨#[c]⟩) (.str LET) m = some (.bl true) := by
      have := h c (List.mem_cons_self ..)
      unfold isL at this
      simp only [inW, inB, this, Option.map_some]
    have ih := name_loop m v0 v1 cs fun d hd => h d (List.mem_cons_of_mem _ hd)
    have ih2 := ih
    simp (decide := true) only [runB, runI, bnd, lift, exS, sSeq, sSeqF, sNil, sSet, sSetN, sSetL, sIf, sRet, sRetN, sExp, sFor, sExt, sApp, sFrz, sPar, sPar3, sUnp, sSetIx, sBrk, sCnt, eVar, rVar, eC, op1, op2, eCall, eNew, aCons, aNil, aStar, eTup, eL, nLst, nRev, nLc, eBlt, eIf, eAnd, eOr, eNotV, tTru, tBl, tNt, tAn, tOrr, tYesM, truW, blW, eChain, iSeq, itW, iRng, bName, bTup, bAll, eMt, ePush, eJoin, jsW, e1M, e2M, sAug, sSup, sFldS, sTree, wipeS, lenW, tupleW, frzb, toW, clsO, eSl, oSome, oNone, Sm.ret, Sm.bad, List.map_cons, List.map_nil, List.length_cons, List.length_nil, List.cons_append, List.nil_append, List.append_nil, List.replicate_succ, List.replicate_zero, List.set_cons_succ, List.set_cons_zero, List.getElem?_cons_succ, List.getElem?_cons_zero, List.length_append, List.length_map, if_true, if_false, reduceIte, Bool.true_and, Bool.and_true, Bool.not_true, Bool.not_false, Option.map_some, Option.map_none, Option.bind_some, Option.bind_none, le_size, lt_size, Nat.reduceLeDiff, Nat.reduceAdd, Nat.reduceSub, Nat.reducePow, Nat.zero_add, decide_eq_true_eq, Nat.reduceLT, gt_iff_lt, ge_iff_le, decide_true, decide_false, Bool.false_eq_true, Bool.or_true, Bool.true_or, Bool.or_false, Bool.false_or, Bool.false_and, Bool.and_false, or_true, true_or, and_true, true_and, or_false, false_or, and_false, false_and, and_self, not_false_eq_true, not_true_eq_false, lcM, e]
    rw [ih]
theorem bls_rep : ∀ n : Nat, blsOf (List.replicate n (.bl true)) = some (List.replicate n true)
  | 0 => rfl
  | n + 1 => by simp [List.replicate_succ, blsOf, bls_rep n]
theorem is_name_ok (k : Nat) {x : Str} (h : Nm x) (m : Sto) : (Sv (k + 1)).f 1 [.str x] m = .ok (.bl true) m := by
  rw [Sf_is_name]
  have h1 : (1 : Int) ≤ (x.length : Int) := by have := h.lo; omega
  have h2 : (x.length : Int) ≤ 4 := by have := h.hi; omega
  have h3 : x.length ≤ 16777216 := by have := h.hi; omega
  have hs : x.cps.size ≤ 16777216 := h3
  simp (decide := true) only [runB, runI, bnd, lift, exS, sSeq, sSeqF, sNil, sSet, sSetN, sSetL, sIf, sRet, sRetN, sExp, sFor, sExt, sApp, sFrz, sPar, sPar3, sUnp, sSetIx, sBrk, sCnt, eVar, rVar, eC, op1, op2, eCall, eNew, aCons, aNil, aStar, eTup, eL, nLst, nRev, nLc, eBlt, eIf, eAnd, eOr, eNotV, tTru, tBl, tNt, tAn, tOrr, tYesM, truW, blW, eChain, iSeq, itW, iRng, bName, bTup, bAll, eMt, ePush, eJoin, jsW, e1M, e2M, sAug, sSup, sFldS, sTree, wipeS, lenW, tupleW, frzb, toW, clsO, eSl, oSome, oNone, Sm.ret, Sm.bad, List.map_cons, List.map_nil, List.length_cons, List.length_nil, List.cons_append, List.nil_append, List.append_nil, List.replicate_succ, List.replicate_zero, List.set_cons_succ, List.set_cons_zero, List.getElem?_cons_succ, List.getElem?_cons_zero, List.length_append, List.length_map, if_true, if_false, reduceIte, Bool.true_and, Bool.and_true, Bool.not_true, Bool.not_false, Option.map_some, Option.map_none, Option.bind_some, Option.bind_none, le_size, lt_size, Nat.reduceLeDiff, Nat.reduceAdd, Nat.reduceSub, Nat.reducePow, Nat.zero_add, decide_eq_true_eq, Nat.reduceLT, gt_iff_lt, ge_iff_le, decide_true, decide_false, Bool.false_eq_true, Bool.or_true, Bool.true_or, Bool.or_false, Bool.false_or, Bool.false_and, Bool.and_false, or_true, true_or, and_true, true_and, or_false, false_or, and_false, false_and, and_self, not_false_eq_true, not_true_eq_false, b_is_name, N_is_name, isi_str, h3, cmpI, h1, h2, chW, name_loop m (.val (.str x)) .un x.cps.toList h.isl, List.length_replicate, Array.length_toList, hs, allW, bls_rep]
  simp
end Pl

namespace Pl
open PySem PySem.Spec PyProof.Rows L2 Sm
mutual
def cnt : T → Nat
  | .leaf _ _ => 1
  | .many _ _ ks => cntL ks + 1
  | .beside _ ks => cntL ks + 1
  | .again _ t => cnt t + 1
  | .grd _ _ t => cnt t + 1
  | .nt t => cnt t + 1
  | .alw _ t => cnt t + 1
def cntL : List T → Nat
  | [] => 0
  | t :: r => cnt t + cntL r
end
mutual
theorem nodes_cnt : ∀ t : T, (nodesT (tw t)).length = cnt t
  | .leaf true x => by simp [tw, nodesT, nodesL, cnt]
  | .leaf false x => by simp [tw, nodesT, nodesL, cnt]
  | .many true k ks => by simp [tw, nodesT, cnt, nodesL_cnt ks]
  | .many false k ks => by simp [tw, nodesT, cnt, nodesL_cnt ks]
  | .beside n ks => by simp [tw, nodesT, cnt, nodesL_cnt ks]
  | .again r t => by simp [tw, nodesT, nodesL, cnt, nodes_cnt t]
  | .grd true x t => by simp [tw, nodesT, nodesL, cnt, nodes_cnt t]
  | .grd false x t => by simp [tw, nodesT, nodesL, cnt, nodes_cnt t]
  | .nt t => by simp [tw, nodesT, nodesL, cnt, nodes_cnt t]
  | .alw w t => by simp [tw, nodesT, nodesL, cnt, nodes_cnt t]
theorem nodesL_cnt : ∀ ks : List T, (nodesL (twL ks)).length = cntL ks
  | [] => by simp [twL, nodesL, cntL]
  | t :: r => by simp [twL, nodesL, cntL, nodes_cnt t, nodesL_cnt r]
end
mutual
theorem lns_cnt : ∀ t : T, (lns t).length ≤ 2 * cnt t
  | .leaf d x => by simp [lns, cnt]
  | .many r k ks => by have := lnsL_cnt ks; simp [lns, cnt]; omega
  | .beside n ks => by have := lnsL_cnt ks; simp [lns, cnt]; omega
  | .again r t => by have := lns_cnt t; simp [lns, cnt]; omega
  | .grd w x t => by have := lns_cnt t; simp [lns, cnt]; omega
  | .nt t => by have := lns_cnt t; simp [lns, cnt]; omega
  | .alw w t => by have := lns_cnt t; simp [lns, cnt]; omega
theorem lnsL_cnt : ∀ ks : List T, (lnsL ks).length ≤ 2 * cntL ks
  | [] => by simp [lnsL, cntL]
  | t :: r => by have := lns_cnt t; have := lnsL_cnt r; simp [lnsL, cntL]; omega
end
theorem isT_tw (t : T) : isT Tx.ats (tw t) = true := by
  cases t with
  | leaf d x => cases d <;> (unfold tw; rfl)
  | many d x => cases d <;> (unfold tw; rfl)
  | grd d x => cases d <;> (unfold tw; rfl)
  | _ => unfold tw; rfl
theorem all_isT : ∀ ks : List T, (twL ks).all (isT Tx.ats) = true
  | [] => rfl
  | t :: r => by simp [twL, isT_tw, all_isT r]
theorem twL_len : ∀ ks : List T, (twL ks).length = ks.length
  | [] => rfl
  | t :: r => by simp [twL, twL_len r]
theorem tree_init (k : Nat) (C : Str) (s : Str) (ks : List T) (sc : W) (m : Sto) (h1 : hasA Tx.ats C "form" = true) (h2 : hasA Tx.ats C "blocks" = true) (h3 : hasA Tx.ats C "script" = true) (h4 : hasA Tx.ats C "nodes" = true) (hc : cntL ks + 1 ≤ 16777216) :
    (Sv (k + 1)).i 10 (.ins C [] []) [.str s, .tup (twL ks), sc] m = .ok (.tin C ["form", "blocks", "script", "nodes"] [.str s, .tup (twL ks), sc, .non] (twL ks)) m := by
  rw [Si_Tree]
  have e := nodesL_cnt ks
  simp (decide := true) only [runB, runI, bnd, lift, exS, sSeq, sSeqF, sNil, sSet, sSetN, sSetL, sIf, sRet, sRetN, sExp, sFor, sExt, sApp, sFrz, sPar, sPar3, sUnp, sSetIx, sBrk, sCnt, eVar, rVar, eC, op1, op2, eCall, eNew, aCons, aNil, aStar, eTup, eL, nLst, nRev, nLc, eBlt, eIf, eAnd, eOr, eNotV, tTru, tBl, tNt, tAn, tOrr, tYesM, truW, blW, eChain, iSeq, itW, iRng, bName, bTup, bAll, eMt, ePush, eJoin, jsW, e1M, e2M, sAug, sSup, sFldS, sTree, wipeS, lenW, tupleW, frzb, toW, clsO, eSl, oSome, oNone, Sm.ret, Sm.bad, List.map_cons, List.map_nil, List.length_cons, List.length_nil, List.cons_append, List.nil_append, List.append_nil, List.replicate_succ, List.replicate_zero, List.set_cons_succ, List.set_cons_zero, List.getElem?_cons_succ, List.getElem?_cons_zero, List.length_append, List.length_map, if_true, if_false, reduceIte, Bool.true_and, Bool.and_true, Bool.not_true, Bool.not_false, Option.map_some, Option.map_none, Option.bind_some, Option.bind_none, le_size, lt_size, Nat.reduceLeDiff, Nat.reduceAdd, Nat.reduceSub, Nat.reducePow, Nat.zero_add, decide_eq_true_eq, Nat.reduceLT, gt_iff_lt, ge_iff_le, decide_true, decide_false, Bool.false_eq_true, Bool.or_true, Bool.true_or, Bool.or_false, Bool.false_or, Bool.false_and, Bool.and_false, or_true, true_or, and_true, true_and, or_false, false_or, and_false, false_and, and_self, not_false_eq_true, not_true_eq_false, b_Tree___init__, N_Tree___init__, putO, h1, h2, h3, h4, putA, all_isT, e, hc]
theorem tree_initP (k : Nat) (C : Str) (s : Str) (p : W) (ks : List T) (sc : W) (m : Sto) (h1 : hasA Tx.ats C "form" = true) (h2 : hasA Tx.ats C "blocks" = true) (h3 : hasA Tx.ats C "script" = true) (h4 : hasA Tx.ats C "nodes" = true) (hc : cntL ks + 1 ≤ 16777216) :
    (Sv (k + 1)).i 10 (.ins C ["parts"] [p]) [.str s, .tup (twL ks), sc] m = .ok (.tin C ["parts", "form", "blocks", "script", "nodes"] [p, .str s, .tup (twL ks), sc, .non] (twL ks)) m := by
  rw [Si_Tree]
  have e := nodesL_cnt ks
  simp (decide := true) only [runB, runI, bnd, lift, exS, sSeq, sSeqF, sNil, sSet, sSetN, sSetL, sIf, sRet, sRetN, sExp, sFor, sExt, sApp, sFrz, sPar, sPar3, sUnp, sSetIx, sBrk, sCnt, eVar, rVar, eC, op1, op2, eCall, eNew, aCons, aNil, aStar, eTup, eL, nLst, nRev, nLc, eBlt, eIf, eAnd, eOr, eNotV, tTru, tBl, tNt, tAn, tOrr, tYesM, truW, blW, eChain, iSeq, itW, iRng, bName, bTup, bAll, eMt, ePush, eJoin, jsW, e1M, e2M, sAug, sSup, sFldS, sTree, wipeS, lenW, tupleW, frzb, toW, clsO, eSl, oSome, oNone, Sm.ret, Sm.bad, List.map_cons, List.map_nil, List.length_cons, List.length_nil, List.cons_append, List.nil_append, List.append_nil, List.replicate_succ, List.replicate_zero, List.set_cons_succ, List.set_cons_zero, List.getElem?_cons_succ, List.getElem?_cons_zero, List.length_append, List.length_map, if_true, if_false, reduceIte, Bool.true_and, Bool.and_true, Bool.not_true, Bool.not_false, Option.map_some, Option.map_none, Option.bind_some, Option.bind_none, le_size, lt_size, Nat.reduceLeDiff, Nat.reduceAdd, Nat.reduceSub, Nat.reducePow, Nat.zero_add, decide_eq_true_eq, Nat.reduceLT, gt_iff_lt, ge_iff_le, decide_true, decide_false, Bool.false_eq_true, Bool.or_true, Bool.true_or, Bool.or_false, Bool.false_or, Bool.false_and, Bool.and_false, or_true, true_or, and_true, true_and, or_false, false_or, and_false, false_and, and_self, not_false_eq_true, not_true_eq_false, b_Tree___init__, N_Tree___init__, putO, h1, h2, h3, h4, putA, all_isT, e, hc]
end Pl

namespace Pl
open PySem PySem.Spec PyProof.Rows L2 Sm
theorem need_name_ok (k : Nat) {x : Str} (h : Nm x) (w : W) (m : Sto) : (Sv (k + 2)).f 3 [.str x, w] m = .ok .non m := by
  rw [Sf_need_name]
  simp (decide := true) only [runB, runI, bnd, lift, exS, sSeq, sSeqF, sNil, sSet, sSetN, sSetL, sIf, sRet, sRetN, sExp, sFor, sExt, sApp, sFrz, sPar, sPar3, sUnp, sSetIx, sBrk, sCnt, eVar, rVar, eC, op1, op2, eCall, eNew, aCons, aNil, aStar, eTup, eL, nLst, nRev, nLc, eBlt, eIf, eAnd, eOr, eNotV, tTru, tBl, tNt, tAn, tOrr, tYesM, truW, blW, eChain, iSeq, itW, iRng, bName, bTup, bAll, eMt, ePush, eJoin, jsW, e1M, e2M, sAug, sSup, sFldS, sTree, wipeS, lenW, tupleW, frzb, toW, clsO, eSl, oSome, oNone, Sm.ret, Sm.bad, List.map_cons, List.map_nil, List.length_cons, List.length_nil, List.cons_append, List.nil_append, List.append_nil, List.replicate_succ, List.replicate_zero, List.set_cons_succ, List.set_cons_zero, List.getElem?_cons_succ, List.getElem?_cons_zero, List.length_append, List.length_map, if_true, if_false, reduceIte, Bool.true_and, Bool.and_true, Bool.not_true, Bool.not_false, Option.map_some, Option.map_none, Option.bind_some, Option.bind_none, le_size, lt_size, Nat.reduceLeDiff, Nat.reduceAdd, Nat.reduceSub, Nat.reducePow, Nat.zero_add, decide_eq_true_eq, Nat.reduceLT, gt_iff_lt, ge_iff_le, decide_true, decide_false, Bool.false_eq_true, Bool.or_true, Bool.true_or, Bool.or_false, Bool.false_or, Bool.false_and, Bool.and_false, or_true, true_or, and_true, true_and, or_false, false_or, and_false, false_and, and_self, not_false_eq_true, not_true_eq_false, b_need_name, N_need_name, is_name_ok k h]
theorem need_part_ok (k : Nat) (t : T) (m : Sto) : (Sv (k + 1)).f 4 [tw t] m = .ok .non m := by
  rw [Sf_need_part]
  simp (decide := true) only [runB, runI, bnd, lift, exS, sSeq, sSeqF, sNil, sSet, sSetN, sSetL, sIf, sRet, sRetN, sExp, sFor, sExt, sApp, sFrz, sPar, sPar3, sUnp, sSetIx, sBrk, sCnt, eVar, rVar, eC, op1, op2, eCall, eNew, aCons, aNil, aStar, eTup, eL, nLst, nRev, nLc, eBlt, eIf, eAnd, eOr, eNotV, tTru, tBl, tNt, tAn, tOrr, tYesM, truW, blW, eChain, iSeq, itW, iRng, bName, bTup, bAll, eMt, ePush, eJoin, jsW, e1M, e2M, sAug, sSup, sFldS, sTree, wipeS, lenW, tupleW, frzb, toW, clsO, eSl, oSome, oNone, Sm.ret, Sm.bad, List.map_cons, List.map_nil, List.length_cons, List.length_nil, List.cons_append, List.nil_append, List.append_nil, List.replicate_succ, List.replicate_zero, List.set_cons_succ, List.set_cons_zero, List.getElem?_cons_succ, List.getElem?_cons_zero, List.length_append, List.length_map, if_true, if_false, reduceIte, Bool.true_and, Bool.and_true, Bool.not_true, Bool.not_false, Option.map_some, Option.map_none, Option.bind_some, Option.bind_none, le_size, lt_size, Nat.reduceLeDiff, Nat.reduceAdd, Nat.reduceSub, Nat.reducePow, Nat.zero_add, decide_eq_true_eq, Nat.reduceLT, gt_iff_lt, ge_iff_le, decide_true, decide_false, Bool.false_eq_true, Bool.or_true, Bool.true_or, Bool.or_false, Bool.false_or, Bool.false_and, Bool.and_false, or_true, true_or, and_true, true_and, or_false, false_or, and_false, false_and, and_self, not_false_eq_true, not_true_eq_false, b_need_part, N_need_part, isi_tree]
theorem is_seqL_ok (k : Nat) (ws : List W) (m : Sto) : (Sv (k + 1)).f 2 [.lst ws] m = .ok (.bl true) m := by
  rw [Sf_is_sequence]
  simp (decide := true) only [runB, runI, bnd, lift, exS, sSeq, sSeqF, sNil, sSet, sSetN, sSetL, sIf, sRet, sRetN, sExp, sFor, sExt, sApp, sFrz, sPar, sPar3, sUnp, sSetIx, sBrk, sCnt, eVar, rVar, eC, op1, op2, eCall, eNew, aCons, aNil, aStar, eTup, eL, nLst, nRev, nLc, eBlt, eIf, eAnd, eOr, eNotV, tTru, tBl, tNt, tAn, tOrr, tYesM, truW, blW, eChain, iSeq, itW, iRng, bName, bTup, bAll, eMt, ePush, eJoin, jsW, e1M, e2M, sAug, sSup, sFldS, sTree, wipeS, lenW, tupleW, frzb, toW, clsO, eSl, oSome, oNone, Sm.ret, Sm.bad, List.map_cons, List.map_nil, List.length_cons, List.length_nil, List.cons_append, List.nil_append, List.append_nil, List.replicate_succ, List.replicate_zero, List.set_cons_succ, List.set_cons_zero, List.getElem?_cons_succ, List.getElem?_cons_zero, List.length_append, List.length_map, if_true, if_false, reduceIte, Bool.true_and, Bool.and_true, Bool.not_true, Bool.not_false, Option.map_some, Option.map_none, Option.bind_some, Option.bind_none, le_size, lt_size, Nat.reduceLeDiff, Nat.reduceAdd, Nat.reduceSub, Nat.reducePow, Nat.zero_add, decide_eq_true_eq, Nat.reduceLT, gt_iff_lt, ge_iff_le, decide_true, decide_false, Bool.false_eq_true, Bool.or_true, Bool.true_or, Bool.or_false, Bool.false_or, Bool.false_and, Bool.and_false, or_true, true_or, and_true, true_and, or_false, false_or, and_false, false_and, and_self, not_false_eq_true, not_true_eq_false, b_is_sequence, N_is_sequence, isi_seqL]
theorem is_seqT_ok (k : Nat) (ws : List W) (m : Sto) : (Sv (k + 1)).f 2 [.tup ws] m = .ok (.bl true) m := by
  rw [Sf_is_sequence]
  simp (decide := true) only [runB, runI, bnd, lift, exS, sSeq, sSeqF, sNil, sSet, sSetN, sSetL, sIf, sRet, sRetN, sExp, sFor, sExt, sApp, sFrz, sPar, sPar3, sUnp, sSetIx, sBrk, sCnt, eVar, rVar, eC, op1, op2, eCall, eNew, aCons, aNil, aStar, eTup, eL, nLst, nRev, nLc, eBlt, eIf, eAnd, eOr, eNotV, tTru, tBl, tNt, tAn, tOrr, tYesM, truW, blW, eChain, iSeq, itW, iRng, bName, bTup, bAll, eMt, ePush, eJoin, jsW, e1M, e2M, sAug, sSup, sFldS, sTree, wipeS, lenW, tupleW, frzb, toW, clsO, eSl, oSome, oNone, Sm.ret, Sm.bad, List.map_cons, List.map_nil, List.length_cons, List.length_nil, List.cons_append, List.nil_append, List.append_nil, List.replicate_succ, List.replicate_zero, List.set_cons_succ, List.set_cons_zero, List.getElem?_cons_succ, List.getElem?_cons_zero, List.length_append, List.length_map, if_true, if_false, reduceIte, Bool.true_and, Bool.and_true, Bool.not_true, Bool.not_false, Option.map_some, Option.map_none, Option.bind_some, Option.bind_none, le_size, lt_size, Nat.reduceLeDiff, Nat.reduceAdd, Nat.reduceSub, Nat.reducePow, Nat.zero_add, decide_eq_true_eq, Nat.reduceLT, gt_iff_lt, ge_iff_le, decide_true, decide_false, Bool.false_eq_true, Bool.or_true, Bool.true_or, Bool.or_false, Bool.false_or, Bool.false_and, Bool.and_false, or_true, true_or, and_true, true_and, or_false, false_or, and_false, false_and, and_self, not_false_eq_true, not_true_eq_false, b_is_sequence, N_is_sequence, isi_seqT]
theorem parts_loop (m : Sto) (v0 v1 : Sl) : ∀ ks : List T, lcM (bName 1) tYesM (eBlt (isiW Tx.tc Tx.kt) (aCons (rVar 1) (aCons (eC (.cls "Tree")) aNil))) [v0, v1] (twL ks) m = .ok (List.replicate ks.length (.bl true)) m
  | [] => rfl
  | t :: ks => by
    have ih := parts_loop m v0 v1 ks
    simp (decide := true) only [runB, runI, bnd, lift, exS, sSeq, sSeqF, sNil, sSet, sSetN, sSetL, sIf, sRet, sRetN, sExp, sFor, sExt, sApp, sFrz, sPar, sPar3, sUnp, sSetIx, sBrk, sCnt, eVar, rVar, eC, op1, op2, eCall, eNew, aCons, aNil, aStar, eTup, eL, nLst, nRev, nLc, eBlt, eIf, eAnd, eOr, eNotV, tTru, tBl, tNt, tAn, tOrr, tYesM, truW, blW, eChain, iSeq, itW, iRng, bName, bTup, bAll, eMt, ePush, eJoin, jsW, e1M, e2M, sAug, sSup, sFldS, sTree, wipeS, lenW, tupleW, frzb, toW, clsO, eSl, oSome, oNone, Sm.ret, Sm.bad, List.map_cons, List.map_nil, List.length_cons, List.length_nil, List.cons_append, List.nil_append, List.append_nil, List.replicate_succ, List.replicate_zero, List.set_cons_succ, List.set_cons_zero, List.getElem?_cons_succ, List.getElem?_cons_zero, List.length_append, List.length_map, if_true, if_false, reduceIte, Bool.true_and, Bool.and_true, Bool.not_true, Bool.not_false, Option.map_some, Option.map_none, Option.bind_some, Option.bind_none, le_size, lt_size, Nat.reduceLeDiff, Nat.reduceAdd, Nat.reduceSub, Nat.reducePow, Nat.zero_add, decide_eq_true_eq, Nat.reduceLT, gt_iff_lt, ge_iff_le, decide_true, decide_false, Bool.false_eq_true, Bool.or_true, Bool.true_or, Bool.or_false, Bool.false_or, Bool.false_and, Bool.and_false, or_true, true_or, and_true, true_and, or_false, false_or, and_false, false_and, and_self, not_false_eq_true, not_true_eq_false, lcM, twL, isi_tree]
    rw [ih]
theorem partsL_ok (k : Nat) (ks : List T) (h : ks.length ≤ 16777216) (m : Sto) : (Sv (k + 2)).f 5 [.lst (twL ks)] m = .ok (.tup (twL ks)) m := by
  rw [Sf_checked_parts]
  simp (decide := true) only [runB, runI, bnd, lift, exS, sSeq, sSeqF, sNil, sSet, sSetN, sSetL, sIf, sRet, sRetN, sExp, sFor, sExt, sApp, sFrz, sPar, sPar3, sUnp, sSetIx, sBrk, sCnt, eVar, rVar, eC, op1, op2, eCall, eNew, aCons, aNil, aStar, eTup, eL, nLst, nRev, nLc, eBlt, eIf, eAnd, eOr, eNotV, tTru, tBl, tNt, tAn, tOrr, tYesM, truW, blW, eChain, iSeq, itW, iRng, bName, bTup, bAll, eMt, ePush, eJoin, jsW, e1M, e2M, sAug, sSup, sFldS, sTree, wipeS, lenW, tupleW, frzb, toW, clsO, eSl, oSome, oNone, Sm.ret, Sm.bad, List.map_cons, List.map_nil, List.length_cons, List.length_nil, List.cons_append, List.nil_append, List.append_nil, List.replicate_succ, List.replicate_zero, List.set_cons_succ, List.set_cons_zero, List.getElem?_cons_succ, List.getElem?_cons_zero, List.length_append, List.length_map, if_true, if_false, reduceIte, Bool.true_and, Bool.and_true, Bool.not_true, Bool.not_false, Option.map_some, Option.map_none, Option.bind_some, Option.bind_none, le_size, lt_size, Nat.reduceLeDiff, Nat.reduceAdd, Nat.reduceSub, Nat.reducePow, Nat.zero_add, decide_eq_true_eq, Nat.reduceLT, gt_iff_lt, ge_iff_le, decide_true, decide_false, Bool.false_eq_true, Bool.or_true, Bool.true_or, Bool.or_false, Bool.false_or, Bool.false_and, Bool.and_false, or_true, true_or, and_true, true_and, or_false, false_or, and_false, false_and, and_self, not_false_eq_true, not_true_eq_false, b_checked_parts, N_checked_parts, is_seqL_ok k, parts_loop m, List.length_replicate, h, allW, bls_rep]
  simp
theorem partsT_ok (k : Nat) (ks : List T) (h : ks.length ≤ 16777216) (m : Sto) : (Sv (k + 2)).f 5 [.tup (twL ks)] m = .ok (.tup (twL ks)) m := by
  rw [Sf_checked_parts]
  simp (decide := true) only [runB, runI, bnd, lift, exS, sSeq, sSeqF, sNil, sSet, sSetN, sSetL, sIf, sRet, sRetN, sExp, sFor, sExt, sApp, sFrz, sPar, sPar3, sUnp, sSetIx, sBrk, sCnt, eVar, rVar, eC, op1, op2, eCall, eNew, aCons, aNil, aStar, eTup, eL, nLst, nRev, nLc, eBlt, eIf, eAnd, eOr, eNotV, tTru, tBl, tNt, tAn, tOrr, tYesM, truW, blW, eChain, iSeq, itW, iRng, bName, bTup, bAll, eMt, ePush, eJoin, jsW, e1M, e2M, sAug, sSup, sFldS, sTree, wipeS, lenW, tupleW, frzb, toW, clsO, eSl, oSome, oNone, Sm.ret, Sm.bad, List.map_cons, List.map_nil, List.length_cons, List.length_nil, List.cons_append, List.nil_append, List.append_nil, List.replicate_succ, List.replicate_zero, List.set_cons_succ, List.set_cons_zero, List.getElem?_cons_succ, List.getElem?_cons_zero, List.length_append, List.length_map, if_true, if_false, reduceIte, Bool.true_and, Bool.and_true, Bool.not_true, Bool.not_false, Option.map_some, Option.map_none, Option.bind_some, Option.bind_none, le_size, lt_size, Nat.reduceLeDiff, Nat.reduceAdd, Nat.reduceSub, Nat.reducePow, Nat.zero_add, decide_eq_true_eq, Nat.reduceLT, gt_iff_lt, ge_iff_le, decide_true, decide_false, Bool.false_eq_true, Bool.or_true, Bool.true_or, Bool.or_false, Bool.false_or, Bool.false_and, Bool.and_false, or_true, true_or, and_true, true_and, or_false, false_or, and_false, false_and, and_self, not_false_eq_true, not_true_eq_false, b_checked_parts, N_checked_parts, is_seqT_ok k, parts_loop m, List.length_replicate, h, allW, bls_rep]
  simp
theorem lines_ok (k : Nat) (x : Str) (ks : List T) (tl : List Str) (h : 1 + (lnsL ks).length + tl.length ≤ 16777216) (m : Sto) : (Sv (k + 1)).f 6 [.str x, .tup (twL ks), .tup (tl.map .str)] m = .ok (lw (x :: (lnsL ks ++ tl))) m := by
  rw [Sf_lines_of]
  have hz : [W.str x].length + (lnsL ks).length ≤ sizeLine := by
    show 1 + _ ≤ 16777216
    omega
  obtain ⟨u', e⟩ := lines_loop m (.val (.str x)) (.val (.tup (twL ks))) (.val (.tup (tl.map .str))) ks [.str x] .un hz
  have h2 : (lnsL ks).length + tl.length + 1 ≤ 16777216 := by omega
  simp (decide := true) only [runB, runI, bnd, lift, exS, sSeq, sSeqF, sNil, sSet, sSetN, sSetL, sIf, sRet, sRetN, sExp, sFor, sExt, sApp, sFrz, sPar, sPar3, sUnp, sSetIx, sBrk, sCnt, eVar, rVar, eC, op1, op2, eCall, eNew, aCons, aNil, aStar, eTup, eL, nLst, nRev, nLc, eBlt, eIf, eAnd, eOr, eNotV, tTru, tBl, tNt, tAn, tOrr, tYesM, truW, blW, eChain, iSeq, itW, iRng, bName, bTup, bAll, eMt, ePush, eJoin, jsW, e1M, e2M, sAug, sSup, sFldS, sTree, wipeS, lenW, tupleW, frzb, toW, clsO, eSl, oSome, oNone, Sm.ret, Sm.bad, List.map_cons, List.map_nil, List.length_cons, List.length_nil, List.cons_append, List.nil_append, List.append_nil, List.replicate_succ, List.replicate_zero, List.set_cons_succ, List.set_cons_zero, List.getElem?_cons_succ, List.getElem?_cons_zero, List.length_append, List.length_map, if_true, if_false, reduceIte, Bool.true_and, Bool.and_true, Bool.not_true, Bool.not_false, Option.map_some, Option.map_none, Option.bind_some, Option.bind_none, le_size, lt_size, Nat.reduceLeDiff, Nat.reduceAdd, Nat.reduceSub, Nat.reducePow, Nat.zero_add, decide_eq_true_eq, Nat.reduceLT, gt_iff_lt, ge_iff_le, decide_true, decide_false, Bool.false_eq_true, Bool.or_true, Bool.true_or, Bool.or_false, Bool.false_or, Bool.false_and, Bool.and_false, or_true, true_or, and_true, true_and, or_false, false_or, and_false, false_and, and_self, not_false_eq_true, not_true_eq_false, b_lines_of, N_lines_of, e, seqW, h2]
  simp [lw]
/-! ### the classes -/
theorem hd_do (x : Str) : (Str.empty ++ ("do " : Str)) ++ x = hd (.leaf true x) := rfl
theorem hd_ask (x : Str) : (Str.empty ++ ("ask " : Str)) ++ x = hd (.leaf false x) := rfl
theorem Nm.len {x : Str} (h : Nm x) : x.length ≤ 16777216 := by have := h.hi; omega
theorem len_app (a b : Str) : (a ++ b).length = a.length + b.length := by
  show (a.cps ++ b.cps).size = _
  rw [Array.size_append]
  rfl
theorem do_ok (k : Nat) {x : Str} (h : Nm x) (m : Sto) : newM "Do" ((Sv (k + 3)).i 0) [.str x] m = .ok (tw (.leaf true x)) m := by
  rw [Si_Do]
  have l1 := h.len
  have l2 : ((Str.empty ++ ("do " : Str)) ++ x).length ≤ 16777216 := by
    rw [len_app]
    have : (Str.empty ++ ("do " : Str)).length = 3 := rfl
    have := h.hi
    omega
  have e := tree_init (k + 1) "Do" "do" [] (.tup [.str ((Str.empty ++ ("do " : Str)) ++ x)]) m rfl rfl rfl rfl (by decide)
  simp (decide := true) only [runB, runI, bnd, lift, exS, sSeq, sSeqF, sNil, sSet, sSetN, sSetL, sIf, sRet, sRetN, sExp, sFor, sExt, sApp, sFrz, sPar, sPar3, sUnp, sSetIx, sBrk, sCnt, eVar, rVar, eC, op1, op2, eCall, eNew, aCons, aNil, aStar, eTup, eL, nLst, nRev, nLc, eBlt, eIf, eAnd, eOr, eNotV, tTru, tBl, tNt, tAn, tOrr, tYesM, truW, blW, eChain, iSeq, itW, iRng, bName, bTup, bAll, eMt, ePush, eJoin, jsW, e1M, e2M, sAug, sSup, sFldS, sTree, wipeS, lenW, tupleW, frzb, toW, clsO, eSl, oSome, oNone, Sm.ret, Sm.bad, List.map_cons, List.map_nil, List.length_cons, List.length_nil, List.cons_append, List.nil_append, List.append_nil, List.replicate_succ, List.replicate_zero, List.set_cons_succ, List.set_cons_zero, List.getElem?_cons_succ, List.getElem?_cons_zero, List.length_append, List.length_map, if_true, if_false, reduceIte, Bool.true_and, Bool.and_true, Bool.not_true, Bool.not_false, Option.map_some, Option.map_none, Option.bind_some, Option.bind_none, le_size, lt_size, Nat.reduceLeDiff, Nat.reduceAdd, Nat.reduceSub, Nat.reducePow, Nat.zero_add, decide_eq_true_eq, Nat.reduceLT, gt_iff_lt, ge_iff_le, decide_true, decide_false, Bool.false_eq_true, Bool.or_true, Bool.true_or, Bool.or_false, Bool.false_or, Bool.false_and, Bool.and_false, or_true, true_or, and_true, true_and, or_false, false_or, and_false, false_and, and_self, not_false_eq_true, not_true_eq_false, newM, b_Do___init__, N_Do___init__, need_name_ok k h, fmtW, l1, l2, putO, putA]
  simp only [twL] at e
  rw [e]
  simp (decide := true) only [runB, runI, bnd, lift, exS, sSeq, sSeqF, sNil, sSet, sSetN, sSetL, sIf, sRet, sRetN, sExp, sFor, sExt, sApp, sFrz, sPar, sPar3, sUnp, sSetIx, sBrk, sCnt, eVar, rVar, eC, op1, op2, eCall, eNew, aCons, aNil, aStar, eTup, eL, nLst, nRev, nLc, eBlt, eIf, eAnd, eOr, eNotV, tTru, tBl, tNt, tAn, tOrr, tYesM, truW, blW, eChain, iSeq, itW, iRng, bName, bTup, bAll, eMt, ePush, eJoin, jsW, e1M, e2M, sAug, sSup, sFldS, sTree, wipeS, lenW, tupleW, frzb, toW, clsO, eSl, oSome, oNone, Sm.ret, Sm.bad, List.map_cons, List.map_nil, List.length_cons, List.length_nil, List.cons_append, List.nil_append, List.append_nil, List.replicate_succ, List.replicate_zero, List.set_cons_succ, List.set_cons_zero, List.getElem?_cons_succ, List.getElem?_cons_zero, List.length_append, List.length_map, if_true, if_false, reduceIte, Bool.true_and, Bool.and_true, Bool.not_true, Bool.not_false, Option.map_some, Option.map_none, Option.bind_some, Option.bind_none, le_size, lt_size, Nat.reduceLeDiff, Nat.reduceAdd, Nat.reduceSub, Nat.reducePow, Nat.zero_add, decide_eq_true_eq, Nat.reduceLT, gt_iff_lt, ge_iff_le, decide_true, decide_false, Bool.false_eq_true, Bool.or_true, Bool.true_or, Bool.or_false, Bool.false_or, Bool.false_and, Bool.and_false, or_true, true_or, and_true, true_and, or_false, false_or, and_false, false_and, and_self, not_false_eq_true, not_true_eq_false, putO, putA, hasA]
  rfl
end Pl

namespace Pl
open PySem PySem.Spec PyProof.Rows L2 Sm
theorem log_ok {i : Int} (h : i.natAbs ≤ 16777216) : i.natAbs.log2 < 1920 := by
  by_cases z : i.natAbs = 0
  · rw [z]
    decide
  · rw [Nat.log2_lt z]
    exact Nat.lt_of_le_of_lt h (by decide)
/-- a number's text is short (no need to say how short) -/
theorem str_len {n : Int} (h : n.natAbs ≤ 16777216) : (Str.ofString (toString n)).length ≤ 1921 := int_text_len_1921 (log_ok h)
theorem ask_ok (k : Nat) {x : Str} (h : Nm x) (m : Sto) : newM "Ask" ((Sv (k + 3)).i 1) [.str x] m = .ok (tw (.leaf false x)) m := by
  rw [Si_Ask]
  have l1 := h.len
  have l2 : ((Str.empty ++ ("ask " : Str)) ++ x).length ≤ 16777216 := by
    rw [len_app]
    have : (Str.empty ++ ("ask " : Str)).length = 4 := rfl
    have := h.hi
    omega
  have e := tree_init (k + 1) "Ask" "ask" [] (.tup [.str ((Str.empty ++ ("ask " : Str)) ++ x)]) m rfl rfl rfl rfl (by decide)
  simp (decide := true) only [runB, runI, bnd, lift, exS, sSeq, sSeqF, sNil, sSet, sSetN, sSetL, sIf, sRet, sRetN, sExp, sFor, sExt, sApp, sFrz, sPar, sPar3, sUnp, sSetIx, sBrk, sCnt, eVar, rVar, eC, op1, op2, eCall, eNew, aCons, aNil, aStar, eTup, eL, nLst, nRev, nLc, eBlt, eIf, eAnd, eOr, eNotV, tTru, tBl, tNt, tAn, tOrr, tYesM, truW, blW, eChain, iSeq, itW, iRng, bName, bTup, bAll, eMt, ePush, eJoin, jsW, e1M, e2M, sAug, sSup, sFldS, sTree, wipeS, lenW, tupleW, frzb, toW, clsO, eSl, oSome, oNone, Sm.ret, Sm.bad, List.map_cons, List.map_nil, List.length_cons, List.length_nil, List.cons_append, List.nil_append, List.append_nil, List.replicate_succ, List.replicate_zero, List.set_cons_succ, List.set_cons_zero, List.getElem?_cons_succ, List.getElem?_cons_zero, List.length_append, List.length_map, if_true, if_false, reduceIte, Bool.true_and, Bool.and_true, Bool.not_true, Bool.not_false, Option.map_some, Option.map_none, Option.bind_some, Option.bind_none, le_size, lt_size, Nat.reduceLeDiff, Nat.reduceAdd, Nat.reduceSub, Nat.reducePow, Nat.zero_add, decide_eq_true_eq, Nat.reduceLT, gt_iff_lt, ge_iff_le, decide_true, decide_false, Bool.false_eq_true, Bool.or_true, Bool.true_or, Bool.or_false, Bool.false_or, Bool.false_and, Bool.and_false, or_true, true_or, and_true, true_and, or_false, false_or, and_false, false_and, and_self, not_false_eq_true, not_true_eq_false, newM, b_Ask___init__, N_Ask___init__, need_name_ok k h, fmtW, l1, l2, putO, putA]
  simp only [twL] at e
  rw [e]
  simp (decide := true) only [runB, runI, bnd, lift, exS, sSeq, sSeqF, sNil, sSet, sSetN, sSetL, sIf, sRet, sRetN, sExp, sFor, sExt, sApp, sFrz, sPar, sPar3, sUnp, sSetIx, sBrk, sCnt, eVar, rVar, eC, op1, op2, eCall, eNew, aCons, aNil, aStar, eTup, eL, nLst, nRev, nLc, eBlt, eIf, eAnd, eOr, eNotV, tTru, tBl, tNt, tAn, tOrr, tYesM, truW, blW, eChain, iSeq, itW, iRng, bName, bTup, bAll, eMt, ePush, eJoin, jsW, e1M, e2M, sAug, sSup, sFldS, sTree, wipeS, lenW, tupleW, frzb, toW, clsO, eSl, oSome, oNone, Sm.ret, Sm.bad, List.map_cons, List.map_nil, List.length_cons, List.length_nil, List.cons_append, List.nil_append, List.append_nil, List.replicate_succ, List.replicate_zero, List.set_cons_succ, List.set_cons_zero, List.getElem?_cons_succ, List.getElem?_cons_zero, List.length_append, List.length_map, if_true, if_false, reduceIte, Bool.true_and, Bool.and_true, Bool.not_true, Bool.not_false, Option.map_some, Option.map_none, Option.bind_some, Option.bind_none, le_size, lt_size, Nat.reduceLeDiff, Nat.reduceAdd, Nat.reduceSub, Nat.reducePow, Nat.zero_add, decide_eq_true_eq, Nat.reduceLT, gt_iff_lt, ge_iff_le, decide_true, decide_false, Bool.false_eq_true, Bool.or_true, Bool.true_or, Bool.or_false, Bool.false_or, Bool.false_and, Bool.and_false, or_true, true_or, and_true, true_and, or_false, false_or, and_false, false_and, and_self, not_false_eq_true, not_true_eq_false, putO, putA, hasA]
  rfl
/-- the sizes of a tree in the making -/
structure Sz (ks : List T) : Prop where
  c : 2 * cntL ks + 2 ≤ 16777216
theorem len_cnt : ∀ ks : List T, ks.length ≤ cntL ks
  | [] => by simp
  | t :: r => by
    have := len_cnt r
    have : 1 ≤ cnt t := by cases t <;> simp [cnt]
    simp [cntL]
    omega
theorem Sz.c1 {ks : List T} (h : Sz ks) : cntL ks + 1 ≤ 16777216 := by have := h.c; omega
theorem Sz.c2 {ks : List T} (h : Sz ks) : ks.length ≤ 16777216 := by have := h.c; have := len_cnt ks; omega
theorem Sz.c3 {ks : List T} (h : Sz ks) : 1 + (lnsL ks).length + 1 ≤ 16777216 := by have := h.c; have := lnsL_cnt ks; omega
theorem Sz.c4 {ks : List T} (h : Sz ks) : 1 + (lnsL ks).length + 0 ≤ 16777216 := by have := h.c; have := lnsL_cnt ks; omega
theorem ite_str (b : Bool) (x y : Str) (m : Sto) : (if b = true then (.ok (.str x) m : Res W) else .ok (.str y) m) = .ok (.str (if b then x else y)) m := by cases b <;> rfl
theorem fld_parts (C : Str) (h : hasA Tx.ats C "parts" = true) (w : W) (m : Sto) : fldW Tx.ats "parts" (.obj C ["parts"] [w]) m = some w := by
  simp [fldW, h, lookA]

theorem rowL_ok (k : Nat) {ks : List T} (h : Sz ks) (b : Bool) (m : Sto) : newM "Row" ((Sv (k + 3)).i 2) [.lst (twL ks), .bl b] m = .ok (tw (.many true b ks)) m := by
  rw [Si_Row]
  cases b
  · have e := tree_initP (k + 1) "Row" "row" (.tup (twL ks)) ks (lw ("row" :: (lnsL ks ++ [("end" : Str)]))) m rfl rfl rfl rfl h.c1
    have e2 := lines_ok (k + 1) "row" ks ["end"] h.c3 m
    simp only [List.map_cons, List.map_nil] at e2
    simp (decide := true) only [runB, runI, bnd, lift, exS, sSeq, sSeqF, sNil, sSet, sSetN, sSetL, sIf, sRet, sRetN, sExp, sFor, sExt, sApp, sFrz, sPar, sPar3, sUnp, sSetIx, sBrk, sCnt, eVar, rVar, eC, op1, op2, eCall, eNew, aCons, aNil, aStar, eTup, eL, nLst, nRev, nLc, eBlt, eIf, eAnd, eOr, eNotV, tTru, tBl, tNt, tAn, tOrr, tYesM, truW, blW, eChain, iSeq, itW, iRng, bName, bTup, bAll, eMt, ePush, eJoin, jsW, e1M, e2M, sAug, sSup, sFldS, sTree, wipeS, lenW, tupleW, frzb, toW, clsO, eSl, oSome, oNone, Sm.ret, Sm.bad, List.map_cons, List.map_nil, List.length_cons, List.length_nil, List.cons_append, List.nil_append, List.append_nil, List.replicate_succ, List.replicate_zero, List.set_cons_succ, List.set_cons_zero, List.getElem?_cons_succ, List.getElem?_cons_zero, List.length_append, List.length_map, if_true, if_false, reduceIte, Bool.true_and, Bool.and_true, Bool.not_true, Bool.not_false, Option.map_some, Option.map_none, Option.bind_some, Option.bind_none, le_size, lt_size, Nat.reduceLeDiff, Nat.reduceAdd, Nat.reduceSub, Nat.reducePow, Nat.zero_add, decide_eq_true_eq, Nat.reduceLT, gt_iff_lt, ge_iff_le, decide_true, decide_false, Bool.false_eq_true, Bool.or_true, Bool.true_or, Bool.or_false, Bool.false_or, Bool.false_and, Bool.and_false, or_true, true_or, and_true, true_and, or_false, false_or, and_false, false_and, and_self, not_false_eq_true, not_true_eq_false, newM, b_Row___init__, N_Row___init__, partsL_ok k ks h.c2, putO, putA, isi_bool, fld_parts "Row" rfl, ite_str, e2, hasA]
    rw [e]
    simp (decide := true) only [runB, runI, bnd, lift, exS, sSeq, sSeqF, sNil, sSet, sSetN, sSetL, sIf, sRet, sRetN, sExp, sFor, sExt, sApp, sFrz, sPar, sPar3, sUnp, sSetIx, sBrk, sCnt, eVar, rVar, eC, op1, op2, eCall, eNew, aCons, aNil, aStar, eTup, eL, nLst, nRev, nLc, eBlt, eIf, eAnd, eOr, eNotV, tTru, tBl, tNt, tAn, tOrr, tYesM, truW, blW, eChain, iSeq, itW, iRng, bName, bTup, bAll, eMt, ePush, eJoin, jsW, e1M, e2M, sAug, sSup, sFldS, sTree, wipeS, lenW, tupleW, frzb, toW, clsO, eSl, oSome, oNone, Sm.ret, Sm.bad, List.map_cons, List.map_nil, List.length_cons, List.length_nil, List.cons_append, List.nil_append, List.append_nil, List.replicate_succ, List.replicate_zero, List.set_cons_succ, List.set_cons_zero, List.getElem?_cons_succ, List.getElem?_cons_zero, List.length_append, List.length_map, if_true, if_false, reduceIte, Bool.true_and, Bool.and_true, Bool.not_true, Bool.not_false, Option.map_some, Option.map_none, Option.bind_some, Option.bind_none, le_size, lt_size, Nat.reduceLeDiff, Nat.reduceAdd, Nat.reduceSub, Nat.reducePow, Nat.zero_add, decide_eq_true_eq, Nat.reduceLT, gt_iff_lt, ge_iff_le, decide_true, decide_false, Bool.false_eq_true, Bool.or_true, Bool.true_or, Bool.or_false, Bool.false_or, Bool.false_and, Bool.and_false, or_true, true_or, and_true, true_and, or_false, false_or, and_false, false_and, and_self, not_false_eq_true, not_true_eq_false, putO, putA, hasA]
    rfl
  · have e := tree_initP (k + 1) "Row" "row" (.tup (twL ks)) ks (lw ("row kept" :: (lnsL ks ++ [("end" : Str)]))) m rfl rfl rfl rfl h.c1
    have e2 := lines_ok (k + 1) "row kept" ks ["end"] h.c3 m
    simp only [List.map_cons, List.map_nil] at e2
    simp (decide := true) only [runB, runI, bnd, lift, exS, sSeq, sSeqF, sNil, sSet, sSetN, sSetL, sIf, sRet, sRetN, sExp, sFor, sExt, sApp, sFrz, sPar, sPar3, sUnp, sSetIx, sBrk, sCnt, eVar, rVar, eC, op1, op2, eCall, eNew, aCons, aNil, aStar, eTup, eL, nLst, nRev, nLc, eBlt, eIf, eAnd, eOr, eNotV, tTru, tBl, tNt, tAn, tOrr, tYesM, truW, blW, eChain, iSeq, itW, iRng, bName, bTup, bAll, eMt, ePush, eJoin, jsW, e1M, e2M, sAug, sSup, sFldS, sTree, wipeS, lenW, tupleW, frzb, toW, clsO, eSl, oSome, oNone, Sm.ret, Sm.bad, List.map_cons, List.map_nil, List.length_cons, List.length_nil, List.cons_append, List.nil_append, List.append_nil, List.replicate_succ, List.replicate_zero, List.set_cons_succ, List.set_cons_zero, List.getElem?_cons_succ, List.getElem?_cons_zero, List.length_append, List.length_map, if_true, if_false, reduceIte, Bool.true_and, Bool.and_true, Bool.not_true, Bool.not_false, Option.map_some, Option.map_none, Option.bind_some, Option.bind_none, le_size, lt_size, Nat.reduceLeDiff, Nat.reduceAdd, Nat.reduceSub, Nat.reducePow, Nat.zero_add, decide_eq_true_eq, Nat.reduceLT, gt_iff_lt, ge_iff_le, decide_true, decide_false, Bool.false_eq_true, Bool.or_true, Bool.true_or, Bool.or_false, Bool.false_or, Bool.false_and, Bool.and_false, or_true, true_or, and_true, true_and, or_false, false_or, and_false, false_and, and_self, not_false_eq_true, not_true_eq_false, newM, b_Row___init__, N_Row___init__, partsL_ok k ks h.c2, putO, putA, isi_bool, fld_parts "Row" rfl, ite_str, e2, hasA]
    rw [e]
    simp (decide := true) only [runB, runI, bnd, lift, exS, sSeq, sSeqF, sNil, sSet, sSetN, sSetL, sIf, sRet, sRetN, sExp, sFor, sExt, sApp, sFrz, sPar, sPar3, sUnp, sSetIx, sBrk, sCnt, eVar, rVar, eC, op1, op2, eCall, eNew, aCons, aNil, aStar, eTup, eL, nLst, nRev, nLc, eBlt, eIf, eAnd, eOr, eNotV, tTru, tBl, tNt, tAn, tOrr, tYesM, truW, blW, eChain, iSeq, itW, iRng, bName, bTup, bAll, eMt, ePush, eJoin, jsW, e1M, e2M, sAug, sSup, sFldS, sTree, wipeS, lenW, tupleW, frzb, toW, clsO, eSl, oSome, oNone, Sm.ret, Sm.bad, List.map_cons, List.map_nil, List.length_cons, List.length_nil, List.cons_append, List.nil_append, List.append_nil, List.replicate_succ, List.replicate_zero, List.set_cons_succ, List.set_cons_zero, List.getElem?_cons_succ, List.getElem?_cons_zero, List.length_append, List.length_map, if_true, if_false, reduceIte, Bool.true_and, Bool.and_true, Bool.not_true, Bool.not_false, Option.map_some, Option.map_none, Option.bind_some, Option.bind_none, le_size, lt_size, Nat.reduceLeDiff, Nat.reduceAdd, Nat.reduceSub, Nat.reducePow, Nat.zero_add, decide_eq_true_eq, Nat.reduceLT, gt_iff_lt, ge_iff_le, decide_true, decide_false, Bool.false_eq_true, Bool.or_true, Bool.true_or, Bool.or_false, Bool.false_or, Bool.false_and, Bool.and_false, or_true, true_or, and_true, true_and, or_false, false_or, and_false, false_and, and_self, not_false_eq_true, not_true_eq_false, putO, putA, hasA]
    rfl
theorem rowT_ok (k : Nat) {ks : List T} (h : Sz ks) (b : Bool) (m : Sto) : newM "Row" ((Sv (k + 3)).i 2) [.tup (twL ks), .bl b] m = .ok (tw (.many true b ks)) m := by
  rw [Si_Row]
  cases b
  · have e := tree_initP (k + 1) "Row" "row" (.tup (twL ks)) ks (lw ("row" :: (lnsL ks ++ [("end" : Str)]))) m rfl rfl rfl rfl h.c1
    have e2 := lines_ok (k + 1) "row" ks ["end"] h.c3 m
    simp only [List.map_cons, List.map_nil] at e2
    simp (decide := true) only [runB, runI, bnd, lift, exS, sSeq, sSeqF, sNil, sSet, sSetN, sSetL, sIf, sRet, sRetN, sExp, sFor, sExt, sApp, sFrz, sPar, sPar3, sUnp, sSetIx, sBrk, sCnt, eVar, rVar, eC, op1, op2, eCall, eNew, aCons, aNil, aStar, eTup, eL, nLst, nRev, nLc, eBlt, eIf, eAnd, eOr, eNotV, tTru, tBl, tNt, tAn, tOrr, tYesM, truW, blW, eChain, iSeq, itW, iRng, bName, bTup, bAll, eMt, ePush, eJoin, jsW, e1M, e2M, sAug, sSup, sFldS, sTree, wipeS, lenW, tupleW, frzb, toW, clsO, eSl, oSome, oNone, Sm.ret, Sm.bad, List.map_cons, List.map_nil, List.length_cons, List.length_nil, List.cons_append, List.nil_append, List.append_nil, List.replicate_succ, List.replicate_zero, List.set_cons_succ, List.set_cons_zero, List.getElem?_cons_succ, List.getElem?_cons_zero, List.length_append, List.length_map, if_true, if_false, reduceIte, Bool.true_and, Bool.and_true, Bool.not_true, Bool.not_false, Option.map_some, Option.map_none, Option.bind_some, Option.bind_none, le_size, lt_size, Nat.reduceLeDiff, Nat.reduceAdd, Nat.reduceSub, Nat.reducePow, Nat.zero_add, decide_eq_true_eq, Nat.reduceLT, gt_iff_lt, ge_iff_le, decide_true, decide_false, Bool.false_eq_true, Bool.or_true, Bool.true_or, Bool.or_false, Bool.false_or, Bool.false_and, Bool.and_false, or_true, true_or, and_true, true_and, or_false, false_or, and_false, false_and, and_self, not_false_eq_true, not_true_eq_false, newM, b_Row___init__, N_Row___init__, partsT_ok k ks h.c2, putO, putA, isi_bool, fld_parts "Row" rfl, ite_str, e2, hasA]
    rw [e]
    simp (decide := true) only [runB, runI, bnd, lift, exS, sSeq, sSeqF, sNil, sSet, sSetN, sSetL, sIf, sRet, sRetN, sExp, sFor, sExt, sApp, sFrz, sPar, sPar3, sUnp, sSetIx, sBrk, sCnt, eVar, rVar, eC, op1, op2, eCall, eNew, aCons, aNil, aStar, eTup, eL, nLst, nRev, nLc, eBlt, eIf, eAnd, eOr, eNotV, tTru, tBl, tNt, tAn, tOrr, tYesM, truW, blW, eChain, iSeq, itW, iRng, bName, bTup, bAll, eMt, ePush, eJoin, jsW, e1M, e2M, sAug, sSup, sFldS, sTree, wipeS, lenW, tupleW, frzb, toW, clsO, eSl, oSome, oNone, Sm.ret, Sm.bad, List.map_cons, List.map_nil, List.length_cons, List.length_nil, List.cons_append, List.nil_append, List.append_nil, List.replicate_succ, List.replicate_zero, List.set_cons_succ, List.set_cons_zero, List.getElem?_cons_succ, List.getElem?_cons_zero, List.length_append, List.length_map, if_true, if_false, reduceIte, Bool.true_and, Bool.and_true, Bool.not_true, Bool.not_false, Option.map_some, Option.map_none, Option.bind_some, Option.bind_none, le_size, lt_size, Nat.reduceLeDiff, Nat.reduceAdd, Nat.reduceSub, Nat.reducePow, Nat.zero_add, decide_eq_true_eq, Nat.reduceLT, gt_iff_lt, ge_iff_le, decide_true, decide_false, Bool.false_eq_true, Bool.or_true, Bool.true_or, Bool.or_false, Bool.false_or, Bool.false_and, Bool.and_false, or_true, true_or, and_true, true_and, or_false, false_or, and_false, false_and, and_self, not_false_eq_true, not_true_eq_false, putO, putA, hasA]
    rfl
  · have e := tree_initP (k + 1) "Row" "row" (.tup (twL ks)) ks (lw ("row kept" :: (lnsL ks ++ [("end" : Str)]))) m rfl rfl rfl rfl h.c1
    have e2 := lines_ok (k + 1) "row kept" ks ["end"] h.c3 m
    simp only [List.map_cons, List.map_nil] at e2
    simp (decide := true) only [runB, runI, bnd, lift, exS, sSeq, sSeqF, sNil, sSet, sSetN, sSetL, sIf, sRet, sRetN, sExp, sFor, sExt, sApp, sFrz, sPar, sPar3, sUnp, sSetIx, sBrk, sCnt, eVar, rVar, eC, op1, op2, eCall, eNew, aCons, aNil, aStar, eTup, eL, nLst, nRev, nLc, eBlt, eIf, eAnd, eOr, eNotV, tTru, tBl, tNt, tAn, tOrr, tYesM, truW, blW, eChain, iSeq, itW, iRng, bName, bTup, bAll, eMt, ePush, eJoin, jsW, e1M, e2M, sAug, sSup, sFldS, sTree, wipeS, lenW, tupleW, frzb, toW, clsO, eSl, oSome, oNone, Sm.ret, Sm.bad, List.map_cons, List.map_nil, List.length_cons, List.length_nil, List.cons_append, List.nil_append, List.append_nil, List.replicate_succ, List.replicate_zero, List.set_cons_succ, List.set_cons_zero, List.getElem?_cons_succ, List.getElem?_cons_zero, List.length_append, List.length_map, if_true, if_false, reduceIte, Bool.true_and, Bool.and_true, Bool.not_true, Bool.not_false, Option.map_some, Option.map_none, Option.bind_some, Option.bind_none, le_size, lt_size, Nat.reduceLeDiff, Nat.reduceAdd, Nat.reduceSub, Nat.reducePow, Nat.zero_add, decide_eq_true_eq, Nat.reduceLT, gt_iff_lt, ge_iff_le, decide_true, decide_false, Bool.false_eq_true, Bool.or_true, Bool.true_or, Bool.or_false, Bool.false_or, Bool.false_and, Bool.and_false, or_true, true_or, and_true, true_and, or_false, false_or, and_false, false_and, and_self, not_false_eq_true, not_true_eq_false, newM, b_Row___init__, N_Row___init__, partsT_ok k ks h.c2, putO, putA, isi_bool, fld_parts "Row" rfl, ite_str, e2, hasA]
    rw [e]
    simp (decide := true) only [runB, runI, bnd, lift, exS, sSeq, sSeqF, sNil, sSet, sSetN, sSetL, sIf, sRet, sRetN, sExp, sFor, sExt, sApp, sFrz, sPar, sPar3, sUnp, sSetIx, sBrk, sCnt, eVar, rVar, eC, op1, op2, eCall, eNew, aCons, aNil, aStar, eTup, eL, nLst, nRev, nLc, eBlt, eIf, eAnd, eOr, eNotV, tTru, tBl, tNt, tAn, tOrr, tYesM, truW, blW, eChain, iSeq, itW, iRng, bName, bTup, bAll, eMt, ePush, eJoin, jsW, e1M, e2M, sAug, sSup, sFldS, sTree, wipeS, lenW, tupleW, frzb, toW, clsO, eSl, oSome, oNone, Sm.ret, Sm.bad, List.map_cons, List.map_nil, List.length_cons, List.length_nil, List.cons_append, List.nil_append, List.append_nil, List.replicate_succ, List.replicate_zero, List.set_cons_succ, List.set_cons_zero, List.getElem?_cons_succ, List.getElem?_cons_zero, List.length_append, List.length_map, if_true, if_false, reduceIte, Bool.true_and, Bool.and_true, Bool.not_true, Bool.not_false, Option.map_some, Option.map_none, Option.bind_some, Option.bind_none, le_size, lt_size, Nat.reduceLeDiff, Nat.reduceAdd, Nat.reduceSub, Nat.reducePow, Nat.zero_add, decide_eq_true_eq, Nat.reduceLT, gt_iff_lt, ge_iff_le, decide_true, decide_false, Bool.false_eq_true, Bool.or_true, Bool.true_or, Bool.or_false, Bool.false_or, Bool.false_and, Bool.and_false, or_true, true_or, and_true, true_and, or_false, false_or, and_false, false_and, and_self, not_false_eq_true, not_true_eq_false, putO, putA, hasA]
    rfl
theorem firstL_ok (k : Nat) {ks : List T} (h : Sz ks) (b : Bool) (m : Sto) : newM "First" ((Sv (k + 3)).i 3) [.lst (twL ks), .bl b] m = .ok (tw (.many false b ks)) m := by
  rw [Si_First]
  cases b
  · have e := tree_initP (k + 1) "First" "first" (.tup (twL ks)) ks (lw ("first" :: (lnsL ks ++ [("end" : Str)]))) m rfl rfl rfl rfl h.c1
    have e2 := lines_ok (k + 1) "first" ks ["end"] h.c3 m
    simp only [List.map_cons, List.map_nil] at e2
    simp (decide := true) only [runB, runI, bnd, lift, exS, sSeq, sSeqF, sNil, sSet, sSetN, sSetL, sIf, sRet, sRetN, sExp, sFor, sExt, sApp, sFrz, sPar, sPar3, sUnp, sSetIx, sBrk, sCnt, eVar, rVar, eC, op1, op2, eCall, eNew, aCons, aNil, aStar, eTup, eL, nLst, nRev, nLc, eBlt, eIf, eAnd, eOr, eNotV, tTru, tBl, tNt, tAn, tOrr, tYesM, truW, blW, eChain, iSeq, itW, iRng, bName, bTup, bAll, eMt, ePush, eJoin, jsW, e1M, e2M, sAug, sSup, sFldS, sTree, wipeS, lenW, tupleW, frzb, toW, clsO, eSl, oSome, oNone, Sm.ret, Sm.bad, List.map_cons, List.map_nil, List.length_cons, List.length_nil, List.cons_append, List.nil_append, List.append_nil, List.replicate_succ, List.replicate_zero, List.set_cons_succ, List.set_cons_zero, List.getElem?_cons_succ, List.getElem?_cons_zero, List.length_append, List.length_map, if_true, if_false, reduceIte, Bool.true_and, Bool.and_true, Bool.not_true, Bool.not_false, Option.map_some, Option.map_none, Option.bind_some, Option.bind_none, le_size, lt_size, Nat.reduceLeDiff, Nat.reduceAdd, Nat.reduceSub, Nat.reducePow, Nat.zero_add, decide_eq_true_eq, Nat.reduceLT, gt_iff_lt, ge_iff_le, decide_true, decide_false, Bool.false_eq_true, Bool.or_true, Bool.true_or, Bool.or_false, Bool.false_or, Bool.false_and, Bool.and_false, or_true, true_or, and_true, true_and, or_false, false_or, and_false, false_and, and_self, not_false_eq_true, not_true_eq_false, newM, b_First___init__, N_First___init__, partsL_ok k ks h.c2, putO, putA, isi_bool, fld_parts "First" rfl, ite_str, e2, hasA]
    rw [e]
    simp (decide := true) only [runB, runI, bnd, lift, exS, sSeq, sSeqF, sNil, sSet, sSetN, sSetL, sIf, sRet, sRetN, sExp, sFor, sExt, sApp, sFrz, sPar, sPar3, sUnp, sSetIx, sBrk, sCnt, eVar, rVar, eC, op1, op2, eCall, eNew, aCons, aNil, aStar, eTup, eL, nLst, nRev, nLc, eBlt, eIf, eAnd, eOr, eNotV, tTru, tBl, tNt, tAn, tOrr, tYesM, truW, blW, eChain, iSeq, itW, iRng, bName, bTup, bAll, eMt, ePush, eJoin, jsW, e1M, e2M, sAug, sSup, sFldS, sTree, wipeS, lenW, tupleW, frzb, toW, clsO, eSl, oSome, oNone, Sm.ret, Sm.bad, List.map_cons, List.map_nil, List.length_cons, List.length_nil, List.cons_append, List.nil_append, List.append_nil, List.replicate_succ, List.replicate_zero, List.set_cons_succ, List.set_cons_zero, List.getElem?_cons_succ, List.getElem?_cons_zero, List.length_append, List.length_map, if_true, if_false, reduceIte, Bool.true_and, Bool.and_true, Bool.not_true, Bool.not_false, Option.map_some, Option.map_none, Option.bind_some, Option.bind_none, le_size, lt_size, Nat.reduceLeDiff, Nat.reduceAdd, Nat.reduceSub, Nat.reducePow, Nat.zero_add, decide_eq_true_eq, Nat.reduceLT, gt_iff_lt, ge_iff_le, decide_true, decide_false, Bool.false_eq_true, Bool.or_true, Bool.true_or, Bool.or_false, Bool.false_or, Bool.false_and, Bool.and_false, or_true, true_or, and_true, true_and, or_false, false_or, and_false, false_and, and_self, not_false_eq_true, not_true_eq_false, putO, putA, hasA]
    rfl
  · have e := tree_initP (k + 1) "First" "first" (.tup (twL ks)) ks (lw ("first kept" :: (lnsL ks ++ [("end" : Str)]))) m rfl rfl rfl rfl h.c1
    have e2 := lines_ok (k + 1) "first kept" ks ["end"] h.c3 m
    simp only [List.map_cons, List.map_nil] at e2
    simp (decide := true) only [runB, runI, bnd, lift, exS, sSeq, sSeqF, sNil, sSet, sSetN, sSetL, sIf, sRet, sRetN, sExp, sFor, sExt, sApp, sFrz, sPar, sPar3, sUnp, sSetIx, sBrk, sCnt, eVar, rVar, eC, op1, op2, eCall, eNew, aCons, aNil, aStar, eTup, eL, nLst, nRev, nLc, eBlt, eIf, eAnd, eOr, eNotV, tTru, tBl, tNt, tAn, tOrr, tYesM, truW, blW, eChain, iSeq, itW, iRng, bName, bTup, bAll, eMt, ePush, eJoin, jsW, e1M, e2M, sAug, sSup, sFldS, sTree, wipeS, lenW, tupleW, frzb, toW, clsO, eSl, oSome, oNone, Sm.ret, Sm.bad, List.map_cons, List.map_nil, List.length_cons, List.length_nil, List.cons_append, List.nil_append, List.append_nil, List.replicate_succ, List.replicate_zero, List.set_cons_succ, List.set_cons_zero, List.getElem?_cons_succ, List.getElem?_cons_zero, List.length_append, List.length_map, if_true, if_false, reduceIte, Bool.true_and, Bool.and_true, Bool.not_true, Bool.not_false, Option.map_some, Option.map_none, Option.bind_some, Option.bind_none, le_size, lt_size, Nat.reduceLeDiff, Nat.reduceAdd, Nat.reduceSub, Nat.reducePow, Nat.zero_add, decide_eq_true_eq, Nat.reduceLT, gt_iff_lt, ge_iff_le, decide_true, decide_false, Bool.false_eq_true, Bool.or_true, Bool.true_or, Bool.or_false, Bool.false_or, Bool.false_and, Bool.and_false, or_true, true_or, and_true, true_and, or_false, false_or, and_false, false_and, and_self, not_false_eq_true, not_true_eq_false, newM, b_First___init__, N_First___init__, partsL_ok k ks h.c2, putO, putA, isi_bool, fld_parts "First" rfl, ite_str, e2, hasA]
    rw [e]
    simp (decide := true) only [runB, runI, bnd, lift, exS, sSeq, sSeqF, sNil, sSet, sSetN, sSetL, sIf, sRet, sRetN, sExp, sFor, sExt, sApp, sFrz, sPar, sPar3, sUnp, sSetIx, sBrk, sCnt, eVar, rVar, eC, op1, op2, eCall, eNew, aCons, aNil, aStar, eTup, eL, nLst, nRev, nLc, eBlt, eIf, eAnd, eOr, eNotV, tTru, tBl, tNt, tAn, tOrr, tYesM, truW, blW, eChain, iSeq, itW, iRng, bName, bTup, bAll, eMt, ePush, eJoin, jsW, e1M, e2M, sAug, sSup, sFldS, sTree, wipeS, lenW, tupleW, frzb, toW, clsO, eSl, oSome, oNone, Sm.ret, Sm.bad, List.map_cons, List.map_nil, List.length_cons, List.length_nil, List.cons_append, List.nil_append, List.append_nil, List.replicate_succ, List.replicate_zero, List.set_cons_succ, List.set_cons_zero, List.getElem?_cons_succ, List.getElem?_cons_zero, List.length_append, List.length_map, if_true, if_false, reduceIte, Bool.true_and, Bool.and_true, Bool.not_true, Bool.not_false, Option.map_some, Option.map_none, Option.bind_some, Option.bind_none, le_size, lt_size, Nat.reduceLeDiff, Nat.reduceAdd, Nat.reduceSub, Nat.reducePow, Nat.zero_add, decide_eq_true_eq, Nat.reduceLT, gt_iff_lt, ge_iff_le, decide_true, decide_false, Bool.false_eq_true, Bool.or_true, Bool.true_or, Bool.or_false, Bool.false_or, Bool.false_and, Bool.and_false, or_true, true_or, and_true, true_and, or_false, false_or, and_false, false_and, and_self, not_false_eq_true, not_true_eq_false, putO, putA, hasA]
    rfl
theorem firstT_ok (k : Nat) {ks : List T} (h : Sz ks) (b : Bool) (m : Sto) : newM "First" ((Sv (k + 3)).i 3) [.tup (twL ks), .bl b] m = .ok (tw (.many false b ks)) m := by
  rw [Si_First]
  cases b
  · have e := tree_initP (k + 1) "First" "first" (.tup (twL ks)) ks (lw ("first" :: (lnsL ks ++ [("end" : Str)]))) m rfl rfl rfl rfl h.c1
    have e2 := lines_ok (k + 1) "first" ks ["end"] h.c3 m
    simp only [List.map_cons, List.map_nil] at e2
    simp (decide := true) only [runB, runI, bnd, lift, exS, sSeq, sSeqF, sNil, sSet, sSetN, sSetL, sIf, sRet, sRetN, sExp, sFor, sExt, sApp, sFrz, sPar, sPar3, sUnp, sSetIx, sBrk, sCnt, eVar, rVar, eC, op1, op2, eCall, eNew, aCons, aNil, aStar, eTup, eL, nLst, nRev, nLc, eBlt, eIf, eAnd, eOr, eNotV, tTru, tBl, tNt, tAn, tOrr, tYesM, truW, blW, eChain, iSeq, itW, iRng, bName, bTup, bAll, eMt, ePush, eJoin, jsW, e1M, e2M, sAug, sSup, sFldS, sTree, wipeS, lenW, tupleW, frzb, toW, clsO, eSl, oSome, oNone, Sm.ret, Sm.bad, List.map_cons, List.map_nil, List.length_cons, List.length_nil, List.cons_append, List.nil_append, List.append_nil, List.replicate_succ, List.replicate_zero, List.set_cons_succ, List.set_cons_zero, List.getElem?_cons_succ, List.getElem?_cons_zero, List.length_append, List.length_map, if_true, if_false, reduceIte, Bool.true_and, Bool.and_true, Bool.not_true, Bool.not_false, Option.map_some, Option.map_none, Option.bind_some, Option.bind_none, le_size, lt_size, Nat.reduceLeDiff, Nat.reduceAdd, Nat.reduceSub, Nat.reducePow, Nat.zero_add, decide_eq_true_eq, Nat.reduceLT, gt_iff_lt, ge_iff_le, decide_true, decide_false, Bool.false_eq_true, Bool.or_true, Bool.true_or, Bool.or_false, Bool.false_or, Bool.false_and, Bool.and_false, or_true, true_or, and_true, true_and, or_false, false_or, and_false, false_and, and_self, not_false_eq_true, not_true_eq_false, newM, b_First___init__, N_First___init__, partsT_ok k ks h.c2, putO, putA, isi_bool, fld_parts "First" rfl, ite_str, e2, hasA]
    rw [e]
    simp (decide := true) only [runB, runI, bnd, lift, exS, sSeq, sSeqF, sNil, sSet, sSetN, sSetL, sIf, sRet, sRetN, sExp, sFor, sExt, sApp, sFrz, sPar, sPar3, sUnp, sSetIx, sBrk, sCnt, eVar, rVar, eC, op1, op2, eCall, eNew, aCons, aNil, aStar, eTup, eL, nLst, nRev, nLc, eBlt, eIf, eAnd, eOr, eNotV, tTru, tBl, tNt, tAn, tOrr, tYesM, truW, blW, eChain, iSeq, itW, iRng, bName, bTup, bAll, eMt, ePush, eJoin, jsW, e1M, e2M, sAug, sSup, sFldS, sTree, wipeS, lenW, tupleW, frzb, toW, clsO, eSl, oSome, oNone, Sm.ret, Sm.bad, List.map_cons, List.map_nil, List.length_cons, List.length_nil, List.cons_append, List.nil_append, List.append_nil, List.replicate_succ, List.replicate_zero, List.set_cons_succ, List.set_cons_zero, List.getElem?_cons_succ, List.getElem?_cons_zero, List.length_append, List.length_map, if_true, if_false, reduceIte, Bool.true_and, Bool.and_true, Bool.not_true, Bool.not_false, Option.map_some, Option.map_none, Option.bind_some, Option.bind_none, le_size, lt_size, Nat.reduceLeDiff, Nat.reduceAdd, Nat.reduceSub, Nat.reducePow, Nat.zero_add, decide_eq_true_eq, Nat.reduceLT, gt_iff_lt, ge_iff_le, decide_true, decide_false, Bool.false_eq_true, Bool.or_true, Bool.true_or, Bool.or_false, Bool.false_or, Bool.false_and, Bool.and_false, or_true, true_or, and_true, true_and, or_false, false_or, and_false, false_and, and_self, not_false_eq_true, not_true_eq_false, putO, putA, hasA]
    rfl
  · have e := tree_initP (k + 1) "First" "first" (.tup (twL ks)) ks (lw ("first kept" :: (lnsL ks ++ [("end" : Str)]))) m rfl rfl rfl rfl h.c1
    have e2 := lines_ok (k + 1) "first kept" ks ["end"] h.c3 m
    simp only [List.map_cons, List.map_nil] at e2
    simp (decide := true) only [runB, runI, bnd, lift, exS, sSeq, sSeqF, sNil, sSet, sSetN, sSetL, sIf, sRet, sRetN, sExp, sFor, sExt, sApp, sFrz, sPar, sPar3, sUnp, sSetIx, sBrk, sCnt, eVar, rVar, eC, op1, op2, eCall, eNew, aCons, aNil, aStar, eTup, eL, nLst, nRev, nLc, eBlt, eIf, eAnd, eOr, eNotV, tTru, tBl, tNt, tAn, tOrr, tYesM, truW, blW, eChain, iSeq, itW, iRng, bName, bTup, bAll, eMt, ePush, eJoin, jsW, e1M, e2M, sAug, sSup, sFldS, sTree, wipeS, lenW, tupleW, frzb, toW, clsO, eSl, oSome, oNone, Sm.ret, Sm.bad, List.map_cons, List.map_nil, List.length_cons, List.length_nil, List.cons_append, List.nil_append, List.append_nil, List.replicate_succ, List.replicate_zero, List.set_cons_succ, List.set_cons_zero, List.getElem?_cons_succ, List.getElem?_cons_zero, List.length_append, List.length_map, if_true, if_false, reduceIte, Bool.true_and, Bool.and_true, Bool.not_true, Bool.not_false, Option.map_some, Option.map_none, Option.bind_some, Option.bind_none, le_size, lt_size, Nat.reduceLeDiff, Nat.reduceAdd, Nat.reduceSub, Nat.reducePow, Nat.zero_add, decide_eq_true_eq, Nat.reduceLT, gt_iff_lt, ge_iff_le, decide_true, decide_false, Bool.false_eq_true, Bool.or_true, Bool.true_or, Bool.or_false, Bool.false_or, Bool.false_and, Bool.and_false, or_true, true_or, and_true, true_and, or_false, false_or, and_false, false_and, and_self, not_false_eq_true, not_true_eq_false, newM, b_First___init__, N_First___init__, partsT_ok k ks h.c2, putO, putA, isi_bool, fld_parts "First" rfl, ite_str, e2, hasA]
    rw [e]
    simp (decide := true) only [runB, runI, bnd, lift, exS, sSeq, sSeqF, sNil, sSet, sSetN, sSetL, sIf, sRet, sRetN, sExp, sFor, sExt, sApp, sFrz, sPar, sPar3, sUnp, sSetIx, sBrk, sCnt, eVar, rVar, eC, op1, op2, eCall, eNew, aCons, aNil, aStar, eTup, eL, nLst, nRev, nLc, eBlt, eIf, eAnd, eOr, eNotV, tTru, tBl, tNt, tAn, tOrr, tYesM, truW, blW, eChain, iSeq, itW, iRng, bName, bTup, bAll, eMt, ePush, eJoin, jsW, e1M, e2M, sAug, sSup, sFldS, sTree, wipeS, lenW, tupleW, frzb, toW, clsO, eSl, oSome, oNone, Sm.ret, Sm.bad, List.map_cons, List.map_nil, List.length_cons, List.length_nil, List.cons_append, List.nil_append, List.append_nil, List.replicate_succ, List.replicate_zero, List.set_cons_succ, List.set_cons_zero, List.getElem?_cons_succ, List.getElem?_cons_zero, List.length_append, List.length_map, if_true, if_false, reduceIte, Bool.true_and, Bool.and_true, Bool.not_true, Bool.not_false, Option.map_some, Option.map_none, Option.bind_some, Option.bind_none, le_size, lt_size, Nat.reduceLeDiff, Nat.reduceAdd, Nat.reduceSub, Nat.reducePow, Nat.zero_add, decide_eq_true_eq, Nat.reduceLT, gt_iff_lt, ge_iff_le, decide_true, decide_false, Bool.false_eq_true, Bool.or_true, Bool.true_or, Bool.or_false, Bool.false_or, Bool.false_and, Bool.and_false, or_true, true_or, and_true, true_and, or_false, false_or, and_false, false_and, and_self, not_false_eq_true, not_true_eq_false, putO, putA, hasA]
    rfl
theorem besideL_ok (k : Nat) {ks : List T} (h : Sz ks) {n : Int} (h1 : 1 ≤ n) (h2 : n ≤ ks.length) (m : Sto) : newM "Beside" ((Sv (k + 3)).i 4) [.lst (twL ks), .int n] m = .ok (tw (.beside n ks)) m := by
  rw [Si_Beside]
  have hn : n.natAbs.log2 < 1920 := log_ok (by have := h.c2; omega)
  have hl : (Str.empty ++ ("beside " : Str) ++ Str.ofString (toString n)).length ≤ 16777216 := by
    rw [len_app]
    have : (Str.empty ++ ("beside " : Str)).length = 7 := rfl
    have := str_len (n := n) (by have := h.c2; omega)
    omega
  have e := tree_initP (k + 1) "Beside" "beside" (.tup (twL ks)) ks (lw ((Str.empty ++ ("beside " : Str) ++ Str.ofString (toString n)) :: (lnsL ks ++ [("end" : Str)]))) m rfl rfl rfl rfl h.c1
  have e2 := lines_ok (k + 1) (Str.empty ++ ("beside " : Str) ++ Str.ofString (toString n)) ks ["end"] h.c3 m
  simp only [List.map_cons, List.map_nil] at e2
  simp (decide := true) only [runB, runI, bnd, lift, exS, sSeq, sSeqF, sNil, sSet, sSetN, sSetL, sIf, sRet, sRetN, sExp, sFor, sExt, sApp, sFrz, sPar, sPar3, sUnp, sSetIx, sBrk, sCnt, eVar, rVar, eC, op1, op2, eCall, eNew, aCons, aNil, aStar, eTup, eL, nLst, nRev, nLc, eBlt, eIf, eAnd, eOr, eNotV, tTru, tBl, tNt, tAn, tOrr, tYesM, truW, blW, eChain, iSeq, itW, iRng, bName, bTup, bAll, eMt, ePush, eJoin, jsW, e1M, e2M, sAug, sSup, sFldS, sTree, wipeS, lenW, tupleW, frzb, toW, clsO, eSl, oSome, oNone, Sm.ret, Sm.bad, List.map_cons, List.map_nil, List.length_cons, List.length_nil, List.cons_append, List.nil_append, List.append_nil, List.replicate_succ, List.replicate_zero, List.set_cons_succ, List.set_cons_zero, List.getElem?_cons_succ, List.getElem?_cons_zero, List.length_append, List.length_map, if_true, if_false, reduceIte, Bool.true_and, Bool.and_true, Bool.not_true, Bool.not_false, Option.map_some, Option.map_none, Option.bind_some, Option.bind_none, le_size, lt_size, Nat.reduceLeDiff, Nat.reduceAdd, Nat.reduceSub, Nat.reducePow, Nat.zero_add, decide_eq_true_eq, Nat.reduceLT, gt_iff_lt, ge_iff_le, decide_true, decide_false, Bool.false_eq_true, Bool.or_true, Bool.true_or, Bool.or_false, Bool.false_or, Bool.false_and, Bool.and_false, or_true, true_or, and_true, true_and, or_false, false_or, and_false, false_and, and_self, not_false_eq_true, not_true_eq_false, newM, b_Beside___init__, N_Beside___init__, partsL_ok k ks h.c2, putO, putA, is_int_ok (k + 1), fld_parts "Beside" rfl, hasA, fmtW, hn, hl, cmpI, h1, h2, twL_len, e2]
  rw [e]
  simp (decide := true) only [runB, runI, bnd, lift, exS, sSeq, sSeqF, sNil, sSet, sSetN, sSetL, sIf, sRet, sRetN, sExp, sFor, sExt, sApp, sFrz, sPar, sPar3, sUnp, sSetIx, sBrk, sCnt, eVar, rVar, eC, op1, op2, eCall, eNew, aCons, aNil, aStar, eTup, eL, nLst, nRev, nLc, eBlt, eIf, eAnd, eOr, eNotV, tTru, tBl, tNt, tAn, tOrr, tYesM, truW, blW, eChain, iSeq, itW, iRng, bName, bTup, bAll, eMt, ePush, eJoin, jsW, e1M, e2M, sAug, sSup, sFldS, sTree, wipeS, lenW, tupleW, frzb, toW, clsO, eSl, oSome, oNone, Sm.ret, Sm.bad, List.map_cons, List.map_nil, List.length_cons, List.length_nil, List.cons_append, List.nil_append, List.append_nil, List.replicate_succ, List.replicate_zero, List.set_cons_succ, List.set_cons_zero, List.getElem?_cons_succ, List.getElem?_cons_zero, List.length_append, List.length_map, if_true, if_false, reduceIte, Bool.true_and, Bool.and_true, Bool.not_true, Bool.not_false, Option.map_some, Option.map_none, Option.bind_some, Option.bind_none, le_size, lt_size, Nat.reduceLeDiff, Nat.reduceAdd, Nat.reduceSub, Nat.reducePow, Nat.zero_add, decide_eq_true_eq, Nat.reduceLT, gt_iff_lt, ge_iff_le, decide_true, decide_false, Bool.false_eq_true, Bool.or_true, Bool.true_or, Bool.or_false, Bool.false_or, Bool.false_and, Bool.and_false, or_true, true_or, and_true, true_and, or_false, false_or, and_false, false_and, and_self, not_false_eq_true, not_true_eq_false, putO, putA, hasA]
  rfl
theorem again_ok (k : Nat) {t : T} (h : Sz [t]) {r : Option Int} (hr : ∀ i, r = some i → 1 ≤ i ∧ i ≤ 16777216) (m : Sto) : newM "Again" ((Sv (k + 3)).i 5) [tw t, opI r] m = .ok (tw (.again r t)) m := by
  rw [Si_Again]
  cases r with
  | none =>
    have e := tree_init (k + 1) "Again" "again" [t] (lw ("again" :: lnsL [t])) m rfl rfl rfl rfl h.c1
    have e2 := lines_ok (k + 1) "again" [t] [] h.c4 m
    simp only [List.map_nil, twL] at e e2
    simp (decide := true) only [runB, runI, bnd, lift, exS, sSeq, sSeqF, sNil, sSet, sSetN, sSetL, sIf, sRet, sRetN, sExp, sFor, sExt, sApp, sFrz, sPar, sPar3, sUnp, sSetIx, sBrk, sCnt, eVar, rVar, eC, op1, op2, eCall, eNew, aCons, aNil, aStar, eTup, eL, nLst, nRev, nLc, eBlt, eIf, eAnd, eOr, eNotV, tTru, tBl, tNt, tAn, tOrr, tYesM, truW, blW, eChain, iSeq, itW, iRng, bName, bTup, bAll, eMt, ePush, eJoin, jsW, e1M, e2M, sAug, sSup, sFldS, sTree, wipeS, lenW, tupleW, frzb, toW, clsO, eSl, oSome, oNone, Sm.ret, Sm.bad, List.map_cons, List.map_nil, List.length_cons, List.length_nil, List.cons_append, List.nil_append, List.append_nil, List.replicate_succ, List.replicate_zero, List.set_cons_succ, List.set_cons_zero, List.getElem?_cons_succ, List.getElem?_cons_zero, List.length_append, List.length_map, if_true, if_false, reduceIte, Bool.true_and, Bool.and_true, Bool.not_true, Bool.not_false, Option.map_some, Option.map_none, Option.bind_some, Option.bind_none, le_size, lt_size, Nat.reduceLeDiff, Nat.reduceAdd, Nat.reduceSub, Nat.reducePow, Nat.zero_add, decide_eq_true_eq, Nat.reduceLT, gt_iff_lt, ge_iff_le, decide_true, decide_false, Bool.false_eq_true, Bool.or_true, Bool.true_or, Bool.or_false, Bool.false_or, Bool.false_and, Bool.and_false, or_true, true_or, and_true, true_and, or_false, false_or, and_false, false_and, and_self, not_false_eq_true, not_true_eq_false, newM, b_Again___init__, N_Again___init__, need_part_ok (k + 1), opI, notNW, isNW, e2]
    rw [e]
    simp (decide := true) only [runB, runI, bnd, lift, exS, sSeq, sSeqF, sNil, sSet, sSetN, sSetL, sIf, sRet, sRetN, sExp, sFor, sExt, sApp, sFrz, sPar, sPar3, sUnp, sSetIx, sBrk, sCnt, eVar, rVar, eC, op1, op2, eCall, eNew, aCons, aNil, aStar, eTup, eL, nLst, nRev, nLc, eBlt, eIf, eAnd, eOr, eNotV, tTru, tBl, tNt, tAn, tOrr, tYesM, truW, blW, eChain, iSeq, itW, iRng, bName, bTup, bAll, eMt, ePush, eJoin, jsW, e1M, e2M, sAug, sSup, sFldS, sTree, wipeS, lenW, tupleW, frzb, toW, clsO, eSl, oSome, oNone, Sm.ret, Sm.bad, List.map_cons, List.map_nil, List.length_cons, List.length_nil, List.cons_append, List.nil_append, List.append_nil, List.replicate_succ, List.replicate_zero, List.set_cons_succ, List.set_cons_zero, List.getElem?_cons_succ, List.getElem?_cons_zero, List.length_append, List.length_map, if_true, if_false, reduceIte, Bool.true_and, Bool.and_true, Bool.not_true, Bool.not_false, Option.map_some, Option.map_none, Option.bind_some, Option.bind_none, le_size, lt_size, Nat.reduceLeDiff, Nat.reduceAdd, Nat.reduceSub, Nat.reducePow, Nat.zero_add, decide_eq_true_eq, Nat.reduceLT, gt_iff_lt, ge_iff_le, decide_true, decide_false, Bool.false_eq_true, Bool.or_true, Bool.true_or, Bool.or_false, Bool.false_or, Bool.false_and, Bool.and_false, or_true, true_or, and_true, true_and, or_false, false_or, and_false, false_and, and_self, not_false_eq_true, not_true_eq_false, putO, putA, hasA]
    simp [lnsL, tw, lns, hd, opI]
  | some i =>
    obtain ⟨h1, h2⟩ := hr i rfl
    have hn : i.natAbs.log2 < 1920 := log_ok (by omega)
    have hl : (Str.empty ++ ("again " : Str) ++ Str.ofString (toString i)).length ≤ 16777216 := by
      rw [len_app]
      have : (Str.empty ++ ("again " : Str)).length = 6 := rfl
      have := str_len (n := i) (by omega)
      omega
    have e := tree_init (k + 1) "Again" "again" [t] (lw ((Str.empty ++ ("again " : Str) ++ Str.ofString (toString i)) :: lnsL [t])) m rfl rfl rfl rfl h.c1
    have e2 := lines_ok (k + 1) (Str.empty ++ ("again " : Str) ++ Str.ofString (toString i)) [t] [] h.c4 m
    simp only [List.map_nil, twL] at e e2
    have h3 : ¬ i < 1 := by omega
    simp (decide := true) only [runB, runI, bnd, lift, exS, sSeq, sSeqF, sNil, sSet, sSetN, sSetL, sIf, sRet, sRetN, sExp, sFor, sExt, sApp, sFrz, sPar, sPar3, sUnp, sSetIx, sBrk, sCnt, eVar, rVar, eC, op1, op2, eCall, eNew, aCons, aNil, aStar, eTup, eL, nLst, nRev, nLc, eBlt, eIf, eAnd, eOr, eNotV, tTru, tBl, tNt, tAn, tOrr, tYesM, truW, blW, eChain, iSeq, itW, iRng, bName, bTup, bAll, eMt, ePush, eJoin, jsW, e1M, e2M, sAug, sSup, sFldS, sTree, wipeS, lenW, tupleW, frzb, toW, clsO, eSl, oSome, oNone, Sm.ret, Sm.bad, List.map_cons, List.map_nil, List.length_cons, List.length_nil, List.cons_append, List.nil_append, List.append_nil, List.replicate_succ, List.replicate_zero, List.set_cons_succ, List.set_cons_zero, List.getElem?_cons_succ, List.getElem?_cons_zero, List.length_append, List.length_map, if_true, if_false, reduceIte, Bool.true_and, Bool.and_true, Bool.not_true, Bool.not_false, Option.map_some, Option.map_none, Option.bind_some, Option.bind_none, le_size, lt_size, Nat.reduceLeDiff, Nat.reduceAdd, Nat.reduceSub, Nat.reducePow, Nat.zero_add, decide_eq_true_eq, Nat.reduceLT, gt_iff_lt, ge_iff_le, decide_true, decide_false, Bool.false_eq_true, Bool.or_true, Bool.true_or, Bool.or_false, Bool.false_or, Bool.false_and, Bool.and_false, or_true, true_or, and_true, true_and, or_false, false_or, and_false, false_and, and_self, not_false_eq_true, not_true_eq_false, newM, b_Again___init__, N_Again___init__, need_part_ok (k + 1), opI, notNW, isNW, is_int_ok (k + 1), cmpI, h3, fmtW, hn, hl, e2]
    rw [e]
    simp (decide := true) only [runB, runI, bnd, lift, exS, sSeq, sSeqF, sNil, sSet, sSetN, sSetL, sIf, sRet, sRetN, sExp, sFor, sExt, sApp, sFrz, sPar, sPar3, sUnp, sSetIx, sBrk, sCnt, eVar, rVar, eC, op1, op2, eCall, eNew, aCons, aNil, aStar, eTup, eL, nLst, nRev, nLc, eBlt, eIf, eAnd, eOr, eNotV, tTru, tBl, tNt, tAn, tOrr, tYesM, truW, blW, eChain, iSeq, itW, iRng, bName, bTup, bAll, eMt, ePush, eJoin, jsW, e1M, e2M, sAug, sSup, sFldS, sTree, wipeS, lenW, tupleW, frzb, toW, clsO, eSl, oSome, oNone, Sm.ret, Sm.bad, List.map_cons, List.map_nil, List.length_cons, List.length_nil, List.cons_append, List.nil_append, List.append_nil, List.replicate_succ, List.replicate_zero, List.set_cons_succ, List.set_cons_zero, List.getElem?_cons_succ, List.getElem?_cons_zero, List.length_append, List.length_map, if_true, if_false, reduceIte, Bool.true_and, Bool.and_true, Bool.not_true, Bool.not_false, Option.map_some, Option.map_none, Option.bind_some, Option.bind_none, le_size, lt_size, Nat.reduceLeDiff, Nat.reduceAdd, Nat.reduceSub, Nat.reducePow, Nat.zero_add, decide_eq_true_eq, Nat.reduceLT, gt_iff_lt, ge_iff_le, decide_true, decide_false, Bool.false_eq_true, Bool.or_true, Bool.true_or, Bool.or_false, Bool.false_or, Bool.false_and, Bool.and_false, or_true, true_or, and_true, true_and, or_false, false_or, and_false, false_and, and_self, not_false_eq_true, not_true_eq_false, putO, putA, hasA]
    simp [lnsL, tw, lns, hd, opI]
    rfl

theorem while_ok (k : Nat) {t : T} (h : Sz [t]) {x : Str} (hx : Nm x) (m : Sto) : newM "While" ((Sv (k + 3)).i 6) [.str x, tw t] m = .ok (tw (.grd true x t)) m := by
  rw [Si_While]
  have l1 := hx.len
  have l2 : ((Str.empty ++ ("while " : Str)) ++ x).length ≤ 16777216 := by
    rw [len_app]
    have : (Str.empty ++ ("while " : Str)).length = 6 := rfl
    have := hx.hi
    omega
  have e := tree_init (k + 1) "While" "while" [t] (lw ((Str.empty ++ ("while " : Str) ++ x) :: lnsL [t])) m rfl rfl rfl rfl h.c1
  have e2 := lines_ok (k + 1) (Str.empty ++ ("while " : Str) ++ x) [t] [] h.c4 m
  simp only [List.map_nil, twL] at e e2
  simp (decide := true) only [runB, runI, bnd, lift, exS, sSeq, sSeqF, sNil, sSet, sSetN, sSetL, sIf, sRet, sRetN, sExp, sFor, sExt, sApp, sFrz, sPar, sPar3, sUnp, sSetIx, sBrk, sCnt, eVar, rVar, eC, op1, op2, eCall, eNew, aCons, aNil, aStar, eTup, eL, nLst, nRev, nLc, eBlt, eIf, eAnd, eOr, eNotV, tTru, tBl, tNt, tAn, tOrr, tYesM, truW, blW, eChain, iSeq, itW, iRng, bName, bTup, bAll, eMt, ePush, eJoin, jsW, e1M, e2M, sAug, sSup, sFldS, sTree, wipeS, lenW, tupleW, frzb, toW, clsO, eSl, oSome, oNone, Sm.ret, Sm.bad, List.map_cons, List.map_nil, List.length_cons, List.length_nil, List.cons_append, List.nil_append, List.append_nil, List.replicate_succ, List.replicate_zero, List.set_cons_succ, List.set_cons_zero, List.getElem?_cons_succ, List.getElem?_cons_zero, List.length_append, List.length_map, if_true, if_false, reduceIte, Bool.true_and, Bool.and_true, Bool.not_true, Bool.not_false, Option.map_some, Option.map_none, Option.bind_some, Option.bind_none, le_size, lt_size, Nat.reduceLeDiff, Nat.reduceAdd, Nat.reduceSub, Nat.reducePow, Nat.zero_add, decide_eq_true_eq, Nat.reduceLT, gt_iff_lt, ge_iff_le, decide_true, decide_false, Bool.false_eq_true, Bool.or_true, Bool.true_or, Bool.or_false, Bool.false_or, Bool.false_and, Bool.and_false, or_true, true_or, and_true, true_and, or_false, false_or, and_false, false_and, and_self, not_false_eq_true, not_true_eq_false, newM, b_While___init__, N_While___init__, need_name_ok k hx, need_part_ok (k + 1), fmtW, l1, l2, e2]
  rw [e]
  simp (decide := true) only [runB, runI, bnd, lift, exS, sSeq, sSeqF, sNil, sSet, sSetN, sSetL, sIf, sRet, sRetN, sExp, sFor, sExt, sApp, sFrz, sPar, sPar3, sUnp, sSetIx, sBrk, sCnt, eVar, rVar, eC, op1, op2, eCall, eNew, aCons, aNil, aStar, eTup, eL, nLst, nRev, nLc, eBlt, eIf, eAnd, eOr, eNotV, tTru, tBl, tNt, tAn, tOrr, tYesM, truW, blW, eChain, iSeq, itW, iRng, bName, bTup, bAll, eMt, ePush, eJoin, jsW, e1M, e2M, sAug, sSup, sFldS, sTree, wipeS, lenW, tupleW, frzb, toW, clsO, eSl, oSome, oNone, Sm.ret, Sm.bad, List.map_cons, List.map_nil, List.length_cons, List.length_nil, List.cons_append, List.nil_append, List.append_nil, List.replicate_succ, List.replicate_zero, List.set_cons_succ, List.set_cons_zero, List.getElem?_cons_succ, List.getElem?_cons_zero, List.length_append, List.length_map, if_true, if_false, reduceIte, Bool.true_and, Bool.and_true, Bool.not_true, Bool.not_false, Option.map_some, Option.map_none, Option.bind_some, Option.bind_none, le_size, lt_size, Nat.reduceLeDiff, Nat.reduceAdd, Nat.reduceSub, Nat.reducePow, Nat.zero_add, decide_eq_true_eq, Nat.reduceLT, gt_iff_lt, ge_iff_le, decide_true, decide_false, Bool.false_eq_true, Bool.or_true, Bool.true_or, Bool.or_false, Bool.false_or, Bool.false_and, Bool.and_false, or_true, true_or, and_true, true_and, or_false, false_or, and_false, false_and, and_self, not_false_eq_true, not_true_eq_false, putO, putA, hasA]
  simp [lnsL, tw, lns, hd]
  rfl

theorem if_ok (k : Nat) {t : T} (h : Sz [t]) {x : Str} (hx : Nm x) (m : Sto) : newM "If" ((Sv (k + 3)).i 7) [.str x, tw t] m = .ok (tw (.grd false x t)) m := by
  rw [Si_If]
  have l1 := hx.len
  have l2 : ((Str.empty ++ ("if " : Str)) ++ x).length ≤ 16777216 := by
    rw [len_app]
    have : (Str.empty ++ ("if " : Str)).length = 3 := rfl
    have := hx.hi
    omega
  have e := tree_init (k + 1) "If" "if" [t] (lw ((Str.empty ++ ("if " : Str) ++ x) :: lnsL [t])) m rfl rfl rfl rfl h.c1
  have e2 := lines_ok (k + 1) (Str.empty ++ ("if " : Str) ++ x) [t] [] h.c4 m
  simp only [List.map_nil, twL] at e e2
  simp (decide := true) only [runB, runI, bnd, lift, exS, sSeq, sSeqF, sNil, sSet, sSetN, sSetL, sIf, sRet, sRetN, sExp, sFor, sExt, sApp, sFrz, sPar, sPar3, sUnp, sSetIx, sBrk, sCnt, eVar, rVar, eC, op1, op2, eCall, eNew, aCons, aNil, aStar, eTup, eL, nLst, nRev, nLc, eBlt, eIf, eAnd, eOr, eNotV, tTru, tBl, tNt, tAn, tOrr, tYesM, truW, blW, eChain, iSeq, itW, iRng, bName, bTup, bAll, eMt, ePush, eJoin, jsW, e1M, e2M, sAug, sSup, sFldS, sTree, wipeS, lenW, tupleW, frzb, toW, clsO, eSl, oSome, oNone, Sm.ret, Sm.bad, List.map_cons, List.map_nil, List.length_cons, List.length_nil, List.cons_append, List.nil_append, List.append_nil, List.replicate_succ, List.replicate_zero, List.set_cons_succ, List.set_cons_zero, List.getElem?_cons_succ, List.getElem?_cons_zero, List.length_append, List.length_map, if_true, if_false, reduceIte, Bool.true_and, Bool.and_true, Bool.not_true, Bool.not_false, Option.map_some, Option.map_none, Option.bind_some, Option.bind_none, le_size, lt_size, Nat.reduceLeDiff, Nat.reduceAdd, Nat.reduceSub, Nat.reducePow, Nat.zero_add, decide_eq_true_eq, Nat.reduceLT, gt_iff_lt, ge_iff_le, decide_true, decide_false, Bool.false_eq_true, Bool.or_true, Bool.true_or, Bool.or_false, Bool.false_or, Bool.false_and, Bool.and_false, or_true, true_or, and_true, true_and, or_false, false_or, and_false, false_and, and_self, not_false_eq_true, not_true_eq_false, newM, b_If___init__, N_If___init__, need_name_ok k hx, need_part_ok (k + 1), fmtW, l1, l2, e2]
  rw [e]
  simp (decide := true) only [runB, runI, bnd, lift, exS, sSeq, sSeqF, sNil, sSet, sSetN, sSetL, sIf, sRet, sRetN, sExp, sFor, sExt, sApp, sFrz, sPar, sPar3, sUnp, sSetIx, sBrk, sCnt, eVar, rVar, eC, op1, op2, eCall, eNew, aCons, aNil, aStar, eTup, eL, nLst, nRev, nLc, eBlt, eIf, eAnd, eOr, eNotV, tTru, tBl, tNt, tAn, tOrr, tYesM, truW, blW, eChain, iSeq, itW, iRng, bName, bTup, bAll, eMt, ePush, eJoin, jsW, e1M, e2M, sAug, sSup, sFldS, sTree, wipeS, lenW, tupleW, frzb, toW, clsO, eSl, oSome, oNone, Sm.ret, Sm.bad, List.map_cons, List.map_nil, List.length_cons, List.length_nil, List.cons_append, List.nil_append, List.append_nil, List.replicate_succ, List.replicate_zero, List.set_cons_succ, List.set_cons_zero, List.getElem?_cons_succ, List.getElem?_cons_zero, List.length_append, List.length_map, if_true, if_false, reduceIte, Bool.true_and, Bool.and_true, Bool.not_true, Bool.not_false, Option.map_some, Option.map_none, Option.bind_some, Option.bind_none, le_size, lt_size, Nat.reduceLeDiff, Nat.reduceAdd, Nat.reduceSub, Nat.reducePow, Nat.zero_add, decide_eq_true_eq, Nat.reduceLT, gt_iff_lt, ge_iff_le, decide_true, decide_false, Bool.false_eq_true, Bool.or_true, Bool.true_or, Bool.or_false, Bool.false_or, Bool.false_and, Bool.and_false, or_true, true_or, and_true, true_and, or_false, false_or, and_false, false_and, and_self, not_false_eq_true, not_true_eq_false, putO, putA, hasA]
  simp [lnsL, tw, lns, hd]
  rfl

theorem not_ok (k : Nat) {t : T} (h : Sz [t]) (m : Sto) : newM "Not" ((Sv (k + 3)).i 8) [tw t] m = .ok (tw (.nt t)) m := by
  rw [Si_Not]
  have e := tree_init (k + 1) "Not" "not" [t] (lw ("not" :: lnsL [t])) m rfl rfl rfl rfl h.c1
  have e2 := lines_ok (k + 1) "not" [t] [] h.c4 m
  simp only [List.map_nil, twL] at e e2
  simp (decide := true) only [runB, runI, bnd, lift, exS, sSeq, sSeqF, sNil, sSet, sSetN, sSetL, sIf, sRet, sRetN, sExp, sFor, sExt, sApp, sFrz, sPar, sPar3, sUnp, sSetIx, sBrk, sCnt, eVar, rVar, eC, op1, op2, eCall, eNew, aCons, aNil, aStar, eTup, eL, nLst, nRev, nLc, eBlt, eIf, eAnd, eOr, eNotV, tTru, tBl, tNt, tAn, tOrr, tYesM, truW, blW, eChain, iSeq, itW, iRng, bName, bTup, bAll, eMt, ePush, eJoin, jsW, e1M, e2M, sAug, sSup, sFldS, sTree, wipeS, lenW, tupleW, frzb, toW, clsO, eSl, oSome, oNone, Sm.ret, Sm.bad, List.map_cons, List.map_nil, List.length_cons, List.length_nil, List.cons_append, List.nil_append, List.append_nil, List.replicate_succ, List.replicate_zero, List.set_cons_succ, List.set_cons_zero, List.getElem?_cons_succ, List.getElem?_cons_zero, List.length_append, List.length_map, if_true, if_false, reduceIte, Bool.true_and, Bool.and_true, Bool.not_true, Bool.not_false, Option.map_some, Option.map_none, Option.bind_some, Option.bind_none, le_size, lt_size, Nat.reduceLeDiff, Nat.reduceAdd, Nat.reduceSub, Nat.reducePow, Nat.zero_add, decide_eq_true_eq, Nat.reduceLT, gt_iff_lt, ge_iff_le, decide_true, decide_false, Bool.false_eq_true, Bool.or_true, Bool.true_or, Bool.or_false, Bool.false_or, Bool.false_and, Bool.and_false, or_true, true_or, and_true, true_and, or_false, false_or, and_false, false_and, and_self, not_false_eq_true, not_true_eq_false, newM, b_Not___init__, N_Not___init__, need_part_ok (k + 1), e2]
  rw [e]
  simp (decide := true) only [runB, runI, bnd, lift, exS, sSeq, sSeqF, sNil, sSet, sSetN, sSetL, sIf, sRet, sRetN, sExp, sFor, sExt, sApp, sFrz, sPar, sPar3, sUnp, sSetIx, sBrk, sCnt, eVar, rVar, eC, op1, op2, eCall, eNew, aCons, aNil, aStar, eTup, eL, nLst, nRev, nLc, eBlt, eIf, eAnd, eOr, eNotV, tTru, tBl, tNt, tAn, tOrr, tYesM, truW, blW, eChain, iSeq, itW, iRng, bName, bTup, bAll, eMt, ePush, eJoin, jsW, e1M, e2M, sAug, sSup, sFldS, sTree, wipeS, lenW, tupleW, frzb, toW, clsO, eSl, oSome, oNone, Sm.ret, Sm.bad, List.map_cons, List.map_nil, List.length_cons, List.length_nil, List.cons_append, List.nil_append, List.append_nil, List.replicate_succ, List.replicate_zero, List.set_cons_succ, List.set_cons_zero, List.getElem?_cons_succ, List.getElem?_cons_zero, List.length_append, List.length_map, if_true, if_false, reduceIte, Bool.true_and, Bool.and_true, Bool.not_true, Bool.not_false, Option.map_some, Option.map_none, Option.bind_some, Option.bind_none, le_size, lt_size, Nat.reduceLeDiff, Nat.reduceAdd, Nat.reduceSub, Nat.reducePow, Nat.zero_add, decide_eq_true_eq, Nat.reduceLT, gt_iff_lt, ge_iff_le, decide_true, decide_false, Bool.false_eq_true, Bool.or_true, Bool.true_or, Bool.or_false, Bool.false_or, Bool.false_and, Bool.and_false, or_true, true_or, and_true, true_and, or_false, false_or, and_false, false_and, and_self, not_false_eq_true, not_true_eq_false, putO, putA, hasA]
  simp [lnsL, tw, lns, hd]
theorem nin_word (w : Bool) (m : Sto) : ninW (.str (zA w)) (.tup [.str "well", .str "ill"]) m = some (.bl false) := by cases w <;> rfl
theorem always_ok (k : Nat) {t : T} (h : Sz [t]) (w : Bool) (m : Sto) : newM "Always" ((Sv (k + 3)).i 9) [.str (zA w), tw t] m = .ok (tw (.alw w t)) m := by
  rw [Si_Always]
  have l1 : (zA w).length ≤ 16777216 := by cases w <;> decide
  have l2 : ((Str.empty ++ ("always " : Str)) ++ zA w).length ≤ 16777216 := by cases w <;> decide
  have e := tree_init (k + 1) "Always" "always" [t] (lw ((Str.empty ++ ("always " : Str) ++ zA w) :: lnsL [t])) m rfl rfl rfl rfl h.c1
  have e2 := lines_ok (k + 1) (Str.empty ++ ("always " : Str) ++ zA w) [t] [] h.c4 m
  simp only [List.map_nil, twL] at e e2
  simp (decide := true) only [runB, runI, bnd, lift, exS, sSeq, sSeqF, sNil, sSet, sSetN, sSetL, sIf, sRet, sRetN, sExp, sFor, sExt, sApp, sFrz, sPar, sPar3, sUnp, sSetIx, sBrk, sCnt, eVar, rVar, eC, op1, op2, eCall, eNew, aCons, aNil, aStar, eTup, eL, nLst, nRev, nLc, eBlt, eIf, eAnd, eOr, eNotV, tTru, tBl, tNt, tAn, tOrr, tYesM, truW, blW, eChain, iSeq, itW, iRng, bName, bTup, bAll, eMt, ePush, eJoin, jsW, e1M, e2M, sAug, sSup, sFldS, sTree, wipeS, lenW, tupleW, frzb, toW, clsO, eSl, oSome, oNone, Sm.ret, Sm.bad, List.map_cons, List.map_nil, List.length_cons, List.length_nil, List.cons_append, List.nil_append, List.append_nil, List.replicate_succ, List.replicate_zero, List.set_cons_succ, List.set_cons_zero, List.getElem?_cons_succ, List.getElem?_cons_zero, List.length_append, List.length_map, if_true, if_false, reduceIte, Bool.true_and, Bool.and_true, Bool.not_true, Bool.not_false, Option.map_some, Option.map_none, Option.bind_some, Option.bind_none, le_size, lt_size, Nat.reduceLeDiff, Nat.reduceAdd, Nat.reduceSub, Nat.reducePow, Nat.zero_add, decide_eq_true_eq, Nat.reduceLT, gt_iff_lt, ge_iff_le, decide_true, decide_false, Bool.false_eq_true, Bool.or_true, Bool.true_or, Bool.or_false, Bool.false_or, Bool.false_and, Bool.and_false, or_true, true_or, and_true, true_and, or_false, false_or, and_false, false_and, and_self, not_false_eq_true, not_true_eq_false, newM, b_Always___init__, N_Always___init__, isi_str, nin_word, need_part_ok (k + 1), fmtW, l1, l2, e2]
  rw [e]
  simp (decide := true) only [runB, runI, bnd, lift, exS, sSeq, sSeqF, sNil, sSet, sSetN, sSetL, sIf, sRet, sRetN, sExp, sFor, sExt, sApp, sFrz, sPar, sPar3, sUnp, sSetIx, sBrk, sCnt, eVar, rVar, eC, op1, op2, eCall, eNew, aCons, aNil, aStar, eTup, eL, nLst, nRev, nLc, eBlt, eIf, eAnd, eOr, eNotV, tTru, tBl, tNt, tAn, tOrr, tYesM, truW, blW, eChain, iSeq, itW, iRng, bName, bTup, bAll, eMt, ePush, eJoin, jsW, e1M, e2M, sAug, sSup, sFldS, sTree, wipeS, lenW, tupleW, frzb, toW, clsO, eSl, oSome, oNone, Sm.ret, Sm.bad, List.map_cons, List.map_nil, List.length_cons, List.length_nil, List.cons_append, List.nil_append, List.append_nil, List.replicate_succ, List.replicate_zero, List.set_cons_succ, List.set_cons_zero, List.getElem?_cons_succ, List.getElem?_cons_zero, List.length_append, List.length_map, if_true, if_false, reduceIte, Bool.true_and, Bool.and_true, Bool.not_true, Bool.not_false, Option.map_some, Option.map_none, Option.bind_some, Option.bind_none, le_size, lt_size, Nat.reduceLeDiff, Nat.reduceAdd, Nat.reduceSub, Nat.reducePow, Nat.zero_add, decide_eq_true_eq, Nat.reduceLT, gt_iff_lt, ge_iff_le, decide_true, decide_false, Bool.false_eq_true, Bool.or_true, Bool.true_or, Bool.or_false, Bool.false_or, Bool.false_and, Bool.and_false, or_true, true_or, and_true, true_and, or_false, false_or, and_false, false_and, and_self, not_false_eq_true, not_true_eq_false, putO, putA, hasA]
  simp [lnsL, tw, lns, hd]
  rfl
end Pl
namespace Pl
open PySem PySem.Spec PyProof.Rows L2 Sm
mutual
def told : T → W
  | .leaf d x => .tup [.str (zD d), .str x]
  | .many r k ks => .tup [.str (zR r), .bl k, .tup (toldL ks)]
  | .beside n ks => .tup [.str "beside", .int n, .tup (toldL ks)]
  | .again r t => .tup [.str "again", opI r, told t]
  | .grd w x t => .tup [.str (zW w), .str x, told t]
  | .nt t => .tup [.str "not", told t]
  | .alw w t => .tup [.str "always", .str (zA w), told t]
def toldL : List T → List W
  | [] => []
  | t :: r => told t :: toldL r
end
mutual
def Wf : T → Prop
  | .leaf _ x => Nm x
  | .many _ _ ks => WfL ks
  | .beside n ks => 1 ≤ n ∧ n ≤ ks.length ∧ WfL ks
  | .again r t => (∀ i, r = some i → 1 ≤ i ∧ i ≤ 1000) ∧ Wf t
  | .grd _ x t => Nm x ∧ Wf t
  | .nt t => Wf t
  | .alw _ t => Wf t
def WfL : List T → Prop
  | [] => True
  | t :: r => Wf t ∧ WfL r
end
mutual
def dep : T → Nat
  | .leaf _ _ => 0
  | .many _ _ ks => depL ks + 1
  | .beside _ ks => depL ks + 1
  | .again _ t => dep t + 1
  | .grd _ _ t => dep t + 1
  | .nt t => dep t + 1
  | .alw _ t => dep t + 1
def depL : List T → Nat
  | [] => 0
  | t :: r => max (dep t) (depL r)
end
theorem beq_dec (a b : Str) : (a == b) = decide (a = b) := rfl
def okL (x : Str) : Bool := x.cps.toList.all fun c => decide (c < 1114112)
theorem okL_ok {x : Str} (h : okL x = true) : PyData.strOk x = true := by
  unfold PyData.strOk
  rw [Array.all_eq_true_iff_forall_mem]
  intro c hc
  exact List.all_eq_true.mp h c (by simpa using hc)
theorem eqW_str (a b : Str) (ha : okL a = true) (hb : okL b = true) (m : Sto) : eqW (.str a) (.str b) m = some (.bl (decide (a = b))) := by
  simp [eqW, eqB, deref, toD, SeqAt.shaped, PyData.eqv, beq_dec, PyData.canLay0, PyData.depth, okL_ok ha, okL_ok hb]
theorem eqV_str (a b : Str) : eqV (.str a) (.str b) = decide (b = a) := by
  show (a == b) = _
  rw [beq_dec, decide_eq_decide]
  exact ⟨Eq.symm, Eq.symm⟩
theorem in2_str (a b c : Str) (m : Sto) : inW (.str a) (.tup [.str b, .str c]) m = some (.bl (decide (a = b) || decide (a = c))) := by
  simp [inW, inB, inSeq, vOf, vsOf, flatV, inV, eqV_str]
theorem in3_str (a b c d : Str) (m : Sto) : inW (.str a) (.tup [.str b, .str c, .str d]) m = some (.bl (decide (a = b) || decide (a = c) || decide (a = d))) := by
  simp [inW, inB, inSeq, vOf, vsOf, flatV, inV, eqV_str, Bool.or_assoc]
theorem atI_nat {α : Type} {l : List α} {a : α} {i : Nat} (h : l[i]? = some a) : atI l (i : Int) = some a := by
  have hl : i < l.length := (List.getElem?_eq_some_iff.mp h).1
  unfold atI ixN
  rw [if_pos (by omega), if_pos (by omega)]
  simpa using h
theorem atI_0 {α : Type} (a : α) (l : List α) : atI (a :: l) 0 = some a := atI_nat (i := 0) rfl
theorem atI_1 {α : Type} (a b : α) (l : List α) : atI (a :: b :: l) 1 = some b := atI_nat (i := 1) rfl
theorem atI_2 {α : Type} (a b c : α) (l : List α) : atI (a :: b :: c :: l) 2 = some c := atI_nat (i := 2) rfl
theorem atI_l {α : Type} (l : List α) (a : α) : atI (l ++ [a]) (-1) = some a := by
  unfold atI ixN
  rw [if_neg (by omega), if_pos (by simp; omega), List.length_append, List.length_singleton, show ((-1 : Int) + ((l.length + 1 : Nat) : Int)).toNat = l.length by omega]
  simp
theorem atI_l2 {α : Type} (a b : α) : atI [a, b] (-1) = some b := atI_l [a] b
theorem atI_l3 {α : Type} (a b c : α) : atI [a, b, c] (-1) = some c := atI_l [a, b] c
theorem blocks_ok (k : Nat) (t : T) (m : Sto) : (Sv (k + 1)).f 13 [told t] m = .ok (.tup (toldL (kids t))) m := by
  rw [Sf__law_blocks]
  cases t with
  | leaf d x => cases d <;> simp (decide := true) only [runB, runI, bnd, lift, exS, sSeq, sSeqF, sNil, sSet, sSetN, sSetL, sIf, sRet, sRetN, sExp, sFor, sExt, sApp, sFrz, sPar, sPar3, sUnp, sSetIx, sBrk, sCnt, eVar, rVar, eC, op1, op2, eCall, eNew, aCons, aNil, aStar, eTup, eL, nLst, nRev, nLc, eBlt, eIf, eAnd, eOr, eNotV, tTru, tBl, tNt, tAn, tOrr, tYesM, truW, blW, eChain, iSeq, itW, iRng, bName, bTup, bAll, eMt, ePush, eJoin, jsW, e1M, e2M, sAug, sSup, sFldS, sTree, wipeS, lenW, tupleW, frzb, toW, clsO, eSl, oSome, oNone, Sm.ret, Sm.bad, List.map_cons, List.map_nil, List.length_cons, List.length_nil, List.cons_append, List.nil_append, List.append_nil, List.replicate_succ, List.replicate_zero, List.set_cons_succ, List.set_cons_zero, List.getElem?_cons_succ, List.getElem?_cons_zero, List.length_append, List.length_map, if_true, if_false, reduceIte, Bool.true_and, Bool.and_true, Bool.not_true, Bool.not_false, Option.map_some, Option.map_none, Option.bind_some, Option.bind_none, le_size, lt_size, Nat.reduceLeDiff, Nat.reduceAdd, Nat.reduceSub, Nat.reducePow, Nat.zero_add, decide_eq_true_eq, Nat.reduceLT, gt_iff_lt, ge_iff_le, decide_true, decide_false, Bool.false_eq_true, Bool.or_true, Bool.true_or, Bool.or_false, Bool.false_or, Bool.false_and, Bool.and_false, or_true, true_or, and_true, true_and, or_false, false_or, and_false, false_and, and_self, not_false_eq_true, not_true_eq_false, b__law_blocks, N__law_blocks, told, zD, ixW, atI_0, atI_1, atI_2, atI_l2, atI_l3, in2_str, in3_str, kids, toldL]
  | many d x ks => cases d <;> simp (decide := true) only [runB, runI, bnd, lift, exS, sSeq, sSeqF, sNil, sSet, sSetN, sSetL, sIf, sRet, sRetN, sExp, sFor, sExt, sApp, sFrz, sPar, sPar3, sUnp, sSetIx, sBrk, sCnt, eVar, rVar, eC, op1, op2, eCall, eNew, aCons, aNil, aStar, eTup, eL, nLst, nRev, nLc, eBlt, eIf, eAnd, eOr, eNotV, tTru, tBl, tNt, tAn, tOrr, tYesM, truW, blW, eChain, iSeq, itW, iRng, bName, bTup, bAll, eMt, ePush, eJoin, jsW, e1M, e2M, sAug, sSup, sFldS, sTree, wipeS, lenW, tupleW, frzb, toW, clsO, eSl, oSome, oNone, Sm.ret, Sm.bad, List.map_cons, List.map_nil, List.length_cons, List.length_nil, List.cons_append, List.nil_append, List.append_nil, List.replicate_succ, List.replicate_zero, List.set_cons_succ, List.set_cons_zero, List.getElem?_cons_succ, List.getElem?_cons_zero, List.length_append, List.length_map, if_true, if_false, reduceIte, Bool.true_and, Bool.and_true, Bool.not_true, Bool.not_false, Option.map_some, Option.map_none, Option.bind_some, Option.bind_none, le_size, lt_size, Nat.reduceLeDiff, Nat.reduceAdd, Nat.reduceSub, Nat.reducePow, Nat.zero_add, decide_eq_true_eq, Nat.reduceLT, gt_iff_lt, ge_iff_le, decide_true, decide_false, Bool.false_eq_true, Bool.or_true, Bool.true_or, Bool.or_false, Bool.false_or, Bool.false_and, Bool.and_false, or_true, true_or, and_true, true_and, or_false, false_or, and_false, false_and, and_self, not_false_eq_true, not_true_eq_false, b__law_blocks, N__law_blocks, told, zR, ixW, atI_0, atI_1, atI_2, atI_l2, atI_l3, in2_str, in3_str, kids, toldL]
  | grd d x t => cases d <;> simp (decide := true) only [runB, runI, bnd, lift, exS, sSeq, sSeqF, sNil, sSet, sSetN, sSetL, sIf, sRet, sRetN, sExp, sFor, sExt, sApp, sFrz, sPar, sPar3, sUnp, sSetIx, sBrk, sCnt, eVar, rVar, eC, op1, op2, eCall, eNew, aCons, aNil, aStar, eTup, eL, nLst, nRev, nLc, eBlt, eIf, eAnd, eOr, eNotV, tTru, tBl, tNt, tAn, tOrr, tYesM, truW, blW, eChain, iSeq, itW, iRng, bName, bTup, bAll, eMt, ePush, eJoin, jsW, e1M, e2M, sAug, sSup, sFldS, sTree, wipeS, lenW, tupleW, frzb, toW, clsO, eSl, oSome, oNone, Sm.ret, Sm.bad, List.map_cons, List.map_nil, List.length_cons, List.length_nil, List.cons_append, List.nil_append, List.append_nil, List.replicate_succ, List.replicate_zero, List.set_cons_succ, List.set_cons_zero, List.getElem?_cons_succ, List.getElem?_cons_zero, List.length_append, List.length_map, if_true, if_false, reduceIte, Bool.true_and, Bool.and_true, Bool.not_true, Bool.not_false, Option.map_some, Option.map_none, Option.bind_some, Option.bind_none, le_size, lt_size, Nat.reduceLeDiff, Nat.reduceAdd, Nat.reduceSub, Nat.reducePow, Nat.zero_add, decide_eq_true_eq, Nat.reduceLT, gt_iff_lt, ge_iff_le, decide_true, decide_false, Bool.false_eq_true, Bool.or_true, Bool.true_or, Bool.or_false, Bool.false_or, Bool.false_and, Bool.and_false, or_true, true_or, and_true, true_and, or_false, false_or, and_false, false_and, and_self, not_false_eq_true, not_true_eq_false, b__law_blocks, N__law_blocks, told, zW, ixW, atI_0, atI_1, atI_2, atI_l2, atI_l3, in2_str, in3_str, kids, toldL, negW]
  | _ => simp (decide := true) only [runB, runI, bnd, lift, exS, sSeq, sSeqF, sNil, sSet, sSetN, sSetL, sIf, sRet, sRetN, sExp, sFor, sExt, sApp, sFrz, sPar, sPar3, sUnp, sSetIx, sBrk, sCnt, eVar, rVar, eC, op1, op2, eCall, eNew, aCons, aNil, aStar, eTup, eL, nLst, nRev, nLc, eBlt, eIf, eAnd, eOr, eNotV, tTru, tBl, tNt, tAn, tOrr, tYesM, truW, blW, eChain, iSeq, itW, iRng, bName, bTup, bAll, eMt, ePush, eJoin, jsW, e1M, e2M, sAug, sSup, sFldS, sTree, wipeS, lenW, tupleW, frzb, toW, clsO, eSl, oSome, oNone, Sm.ret, Sm.bad, List.map_cons, List.map_nil, List.length_cons, List.length_nil, List.cons_append, List.nil_append, List.append_nil, List.replicate_succ, List.replicate_zero, List.set_cons_succ, List.set_cons_zero, List.getElem?_cons_succ, List.getElem?_cons_zero, List.length_append, List.length_map, if_true, if_false, reduceIte, Bool.true_and, Bool.and_true, Bool.not_true, Bool.not_false, Option.map_some, Option.map_none, Option.bind_some, Option.bind_none, le_size, lt_size, Nat.reduceLeDiff, Nat.reduceAdd, Nat.reduceSub, Nat.reducePow, Nat.zero_add, decide_eq_true_eq, Nat.reduceLT, gt_iff_lt, ge_iff_le, decide_true, decide_false, Bool.false_eq_true, Bool.or_true, Bool.true_or, Bool.or_false, Bool.false_or, Bool.false_and, Bool.and_false, or_true, true_or, and_true, true_and, or_false, false_or, and_false, false_and, and_self, not_false_eq_true, not_true_eq_false, b__law_blocks, N__law_blocks, told, ixW, atI_0, atI_1, atI_2, atI_l2, atI_l3, in2_str, in3_str, kids, toldL, negW]
end Pl

namespace Pl
open PySem PySem.Spec PyProof.Rows L2 Sm
theorem head_leaf (k : Nat) (d : Bool) {x : Str} (h : x.length ≤ 1000000) (m : Sto) : (Sv (k + 1)).f 14 [told (.leaf d x)] m = .ok (.str (hd (.leaf d x))) m := by
  rw [Sf__law_head]
  cases d
  · have l : (("ask" : Str) ++ (" " : Str)).length + x.length ≤ 16777216 := by
      have : (("ask" : Str) ++ (" " : Str)).length = 4 := rfl
      omega
    simp (decide := true) only [runB, runI, bnd, lift, exS, sSeq, sSeqF, sNil, sSet, sSetN, sSetL, sIf, sRet, sRetN, sExp, sFor, sExt, sApp, sFrz, sPar, sPar3, sUnp, sSetIx, sBrk, sCnt, eVar, rVar, eC, op1, op2, eCall, eNew, aCons, aNil, aStar, eTup, eL, nLst, nRev, nLc, eBlt, eIf, eAnd, eOr, eNotV, tTru, tBl, tNt, tAn, tOrr, tYesM, truW, blW, eChain, iSeq, itW, iRng, bName, bTup, bAll, eMt, ePush, eJoin, jsW, e1M, e2M, sAug, sSup, sFldS, sTree, wipeS, lenW, tupleW, frzb, toW, clsO, eSl, oSome, oNone, Sm.ret, Sm.bad, List.map_cons, List.map_nil, List.length_cons, List.length_nil, List.cons_append, List.nil_append, List.append_nil, List.replicate_succ, List.replicate_zero, List.set_cons_succ, List.set_cons_zero, List.getElem?_cons_succ, List.getElem?_cons_zero, List.length_append, List.length_map, if_true, if_false, reduceIte, Bool.true_and, Bool.and_true, Bool.not_true, Bool.not_false, Option.map_some, Option.map_none, Option.bind_some, Option.bind_none, le_size, lt_size, Nat.reduceLeDiff, Nat.reduceAdd, Nat.reduceSub, Nat.reducePow, Nat.zero_add, decide_eq_true_eq, Nat.reduceLT, gt_iff_lt, ge_iff_le, decide_true, decide_false, Bool.false_eq_true, Bool.or_true, Bool.true_or, Bool.or_false, Bool.false_or, Bool.false_and, Bool.and_false, or_true, true_or, and_true, true_and, or_false, false_or, and_false, false_and, and_self, not_false_eq_true, not_true_eq_false, b__law_head, N__law_head, told, zD, ixW, atI_0, atI_1, in2_str, eqW_str, isNW, addW, strM, clsW, strW, l]
    rfl
  · have l : (("do" : Str) ++ (" " : Str)).length + x.length ≤ 16777216 := by
      have : (("do" : Str) ++ (" " : Str)).length = 3 := rfl
      omega
    simp (decide := true) only [runB, runI, bnd, lift, exS, sSeq, sSeqF, sNil, sSet, sSetN, sSetL, sIf, sRet, sRetN, sExp, sFor, sExt, sApp, sFrz, sPar, sPar3, sUnp, sSetIx, sBrk, sCnt, eVar, rVar, eC, op1, op2, eCall, eNew, aCons, aNil, aStar, eTup, eL, nLst, nRev, nLc, eBlt, eIf, eAnd, eOr, eNotV, tTru, tBl, tNt, tAn, tOrr, tYesM, truW, blW, eChain, iSeq, itW, iRng, bName, bTup, bAll, eMt, ePush, eJoin, jsW, e1M, e2M, sAug, sSup, sFldS, sTree, wipeS, lenW, tupleW, frzb, toW, clsO, eSl, oSome, oNone, Sm.ret, Sm.bad, List.map_cons, List.map_nil, List.length_cons, List.length_nil, List.cons_append, List.nil_append, List.append_nil, List.replicate_succ, List.replicate_zero, List.set_cons_succ, List.set_cons_zero, List.getElem?_cons_succ, List.getElem?_cons_zero, List.length_append, List.length_map, if_true, if_false, reduceIte, Bool.true_and, Bool.and_true, Bool.not_true, Bool.not_false, Option.map_some, Option.map_none, Option.bind_some, Option.bind_none, le_size, lt_size, Nat.reduceLeDiff, Nat.reduceAdd, Nat.reduceSub, Nat.reducePow, Nat.zero_add, decide_eq_true_eq, Nat.reduceLT, gt_iff_lt, ge_iff_le, decide_true, decide_false, Bool.false_eq_true, Bool.or_true, Bool.true_or, Bool.or_false, Bool.false_or, Bool.false_and, Bool.and_false, or_true, true_or, and_true, true_and, or_false, false_or, and_false, false_and, and_self, not_false_eq_true, not_true_eq_false, b__law_head, N__law_head, told, zD, ixW, atI_0, atI_1, in2_str, eqW_str, isNW, addW, strM, clsW, strW, l]
    rfl
theorem head_ok (k : Nat) (t : T) (h : Wf t) (hs : ∀ n ks, t = .beside n ks → ks.length ≤ 16777216) (m : Sto) : (Sv (k + 1)).f 14 [told t] m = .ok (.str (hd t)) m := by
  cases t with
  | leaf d x =>
    have hx : Nm x := h
    exact head_leaf k d (by have := hx.hi; omega) m
  | many r kp ks =>
    rw [Sf__law_head]
    cases r <;> cases kp <;> (simp (decide := true) only [runB, runI, bnd, lift, exS, sSeq, sSeqF, sNil, sSet, sSetN, sSetL, sIf, sRet, sRetN, sExp, sFor, sExt, sApp, sFrz, sPar, sPar3, sUnp, sSetIx, sBrk, sCnt, eVar, rVar, eC, op1, op2, eCall, eNew, aCons, aNil, aStar, eTup, eL, nLst, nRev, nLc, eBlt, eIf, eAnd, eOr, eNotV, tTru, tBl, tNt, tAn, tOrr, tYesM, truW, blW, eChain, iSeq, itW, iRng, bName, bTup, bAll, eMt, ePush, eJoin, jsW, e1M, e2M, sAug, sSup, sFldS, sTree, wipeS, lenW, tupleW, frzb, toW, clsO, eSl, oSome, oNone, Sm.ret, Sm.bad, List.map_cons, List.map_nil, List.length_cons, List.length_nil, List.cons_append, List.nil_append, List.append_nil, List.replicate_succ, List.replicate_zero, List.set_cons_succ, List.set_cons_zero, List.getElem?_cons_succ, List.getElem?_cons_zero, List.length_append, List.length_map, if_true, if_false, reduceIte, Bool.true_and, Bool.and_true, Bool.not_true, Bool.not_false, Option.map_some, Option.map_none, Option.bind_some, Option.bind_none, le_size, lt_size, Nat.reduceLeDiff, Nat.reduceAdd, Nat.reduceSub, Nat.reducePow, Nat.zero_add, decide_eq_true_eq, Nat.reduceLT, gt_iff_lt, ge_iff_le, decide_true, decide_false, Bool.false_eq_true, Bool.or_true, Bool.true_or, Bool.or_false, Bool.false_or, Bool.false_and, Bool.and_false, or_true, true_or, and_true, true_and, or_false, false_or, and_false, false_and, and_self, not_false_eq_true, not_true_eq_false, b__law_head, N__law_head, told, zR, ixW, atI_0, atI_1, in2_str, eqW_str, isNW, addW, strM, clsW, strW]; rfl)
  | beside n ks =>
    rw [Sf__law_head]
    obtain ⟨h1, h2, _⟩ := h
    have hz := hs n ks rfl
    have hn : n.natAbs.log2 < 1920 := log_ok (by omega)
    have hl := str_len (n := n) (by omega)
    have l : (("beside" : Str) ++ (" " : Str)).length + (Str.ofString (toString n)).length ≤ 16777216 := by
      have : (("beside" : Str) ++ (" " : Str)).length = 7 := rfl
      omega
    simp (decide := true) only [runB, runI, bnd, lift, exS, sSeq, sSeqF, sNil, sSet, sSetN, sSetL, sIf, sRet, sRetN, sExp, sFor, sExt, sApp, sFrz, sPar, sPar3, sUnp, sSetIx, sBrk, sCnt, eVar, rVar, eC, op1, op2, eCall, eNew, aCons, aNil, aStar, eTup, eL, nLst, nRev, nLc, eBlt, eIf, eAnd, eOr, eNotV, tTru, tBl, tNt, tAn, tOrr, tYesM, truW, blW, eChain, iSeq, itW, iRng, bName, bTup, bAll, eMt, ePush, eJoin, jsW, e1M, e2M, sAug, sSup, sFldS, sTree, wipeS, lenW, tupleW, frzb, toW, clsO, eSl, oSome, oNone, Sm.ret, Sm.bad, List.map_cons, List.map_nil, List.length_cons, List.length_nil, List.cons_append, List.nil_append, List.append_nil, List.replicate_succ, List.replicate_zero, List.set_cons_succ, List.set_cons_zero, List.getElem?_cons_succ, List.getElem?_cons_zero, List.length_append, List.length_map, if_true, if_false, reduceIte, Bool.true_and, Bool.and_true, Bool.not_true, Bool.not_false, Option.map_some, Option.map_none, Option.bind_some, Option.bind_none, le_size, lt_size, Nat.reduceLeDiff, Nat.reduceAdd, Nat.reduceSub, Nat.reducePow, Nat.zero_add, decide_eq_true_eq, Nat.reduceLT, gt_iff_lt, ge_iff_le, decide_true, decide_false, Bool.false_eq_true, Bool.or_true, Bool.true_or, Bool.or_false, Bool.false_or, Bool.false_and, Bool.and_false, or_true, true_or, and_true, true_and, or_false, false_or, and_false, false_and, and_self, not_false_eq_true, not_true_eq_false, b__law_head, N__law_head, told, ixW, atI_0, atI_1, in2_str, eqW_str, isNW, addW, strM, clsW, strW, hn, l]
    rfl
  | again r t =>
    rw [Sf__law_head]
    obtain ⟨h1, _⟩ := h
    cases r with
    | none =>
      simp (decide := true) only [runB, runI, bnd, lift, exS, sSeq, sSeqF, sNil, sSet, sSetN, sSetL, sIf, sRet, sRetN, sExp, sFor, sExt, sApp, sFrz, sPar, sPar3, sUnp, sSetIx, sBrk, sCnt, eVar, rVar, eC, op1, op2, eCall, eNew, aCons, aNil, aStar, eTup, eL, nLst, nRev, nLc, eBlt, eIf, eAnd, eOr, eNotV, tTru, tBl, tNt, tAn, tOrr, tYesM, truW, blW, eChain, iSeq, itW, iRng, bName, bTup, bAll, eMt, ePush, eJoin, jsW, e1M, e2M, sAug, sSup, sFldS, sTree, wipeS, lenW, tupleW, frzb, toW, clsO, eSl, oSome, oNone, Sm.ret, Sm.bad, List.map_cons, List.map_nil, List.length_cons, List.length_nil, List.cons_append, List.nil_append, List.append_nil, List.replicate_succ, List.replicate_zero, List.set_cons_succ, List.set_cons_zero, List.getElem?_cons_succ, List.getElem?_cons_zero, List.length_append, List.length_map, if_true, if_false, reduceIte, Bool.true_and, Bool.and_true, Bool.not_true, Bool.not_false, Option.map_some, Option.map_none, Option.bind_some, Option.bind_none, le_size, lt_size, Nat.reduceLeDiff, Nat.reduceAdd, Nat.reduceSub, Nat.reducePow, Nat.zero_add, decide_eq_true_eq, Nat.reduceLT, gt_iff_lt, ge_iff_le, decide_true, decide_false, Bool.false_eq_true, Bool.or_true, Bool.true_or, Bool.or_false, Bool.false_or, Bool.false_and, Bool.and_false, or_true, true_or, and_true, true_and, or_false, false_or, and_false, false_and, and_self, not_false_eq_true, not_true_eq_false, b__law_head, N__law_head, told, ixW, atI_0, atI_1, in2_str, eqW_str, isNW, addW, strM, clsW, strW, opI]
      rfl
    | some i =>
      obtain ⟨h1, h2⟩ := h1 i rfl
      have hn : i.natAbs.log2 < 1920 := log_ok (by omega)
      have hl := str_len (n := i) (by omega)
      have l : (("again" : Str) ++ (" " : Str)).length + (Str.ofString (toString i)).length ≤ 16777216 := by
        have : (("again" : Str) ++ (" " : Str)).length = 6 := rfl
        omega
      simp (decide := true) only [runB, runI, bnd, lift, exS, sSeq, sSeqF, sNil, sSet, sSetN, sSetL, sIf, sRet, sRetN, sExp, sFor, sExt, sApp, sFrz, sPar, sPar3, sUnp, sSetIx, sBrk, sCnt, eVar, rVar, eC, op1, op2, eCall, eNew, aCons, aNil, aStar, eTup, eL, nLst, nRev, nLc, eBlt, eIf, eAnd, eOr, eNotV, tTru, tBl, tNt, tAn, tOrr, tYesM, truW, blW, eChain, iSeq, itW, iRng, bName, bTup, bAll, eMt, ePush, eJoin, jsW, e1M, e2M, sAug, sSup, sFldS, sTree, wipeS, lenW, tupleW, frzb, toW, clsO, eSl, oSome, oNone, Sm.ret, Sm.bad, List.map_cons, List.map_nil, List.length_cons, List.length_nil, List.cons_append, List.nil_append, List.append_nil, List.replicate_succ, List.replicate_zero, List.set_cons_succ, List.set_cons_zero, List.getElem?_cons_succ, List.getElem?_cons_zero, List.length_append, List.length_map, if_true, if_false, reduceIte, Bool.true_and, Bool.and_true, Bool.not_true, Bool.not_false, Option.map_some, Option.map_none, Option.bind_some, Option.bind_none, le_size, lt_size, Nat.reduceLeDiff, Nat.reduceAdd, Nat.reduceSub, Nat.reducePow, Nat.zero_add, decide_eq_true_eq, Nat.reduceLT, gt_iff_lt, ge_iff_le, decide_true, decide_false, Bool.false_eq_true, Bool.or_true, Bool.true_or, Bool.or_false, Bool.false_or, Bool.false_and, Bool.and_false, or_true, true_or, and_true, true_and, or_false, false_or, and_false, false_and, and_self, not_false_eq_true, not_true_eq_false, b__law_head, N__law_head, told, ixW, atI_0, atI_1, in2_str, eqW_str, isNW, addW, strM, clsW, strW, opI, hn, l]
      rfl
  | grd w x t =>
    rw [Sf__law_head]
    obtain ⟨hx, _⟩ := h
    have hl := hx.hi
    cases w
    · have l : (("if" : Str) ++ (" " : Str)).length + x.length ≤ 16777216 := by
        have : (("if" : Str) ++ (" " : Str)).length = 3 := rfl
        omega
      simp (decide := true) only [runB, runI, bnd, lift, exS, sSeq, sSeqF, sNil, sSet, sSetN, sSetL, sIf, sRet, sRetN, sExp, sFor, sExt, sApp, sFrz, sPar, sPar3, sUnp, sSetIx, sBrk, sCnt, eVar, rVar, eC, op1, op2, eCall, eNew, aCons, aNil, aStar, eTup, eL, nLst, nRev, nLc, eBlt, eIf, eAnd, eOr, eNotV, tTru, tBl, tNt, tAn, tOrr, tYesM, truW, blW, eChain, iSeq, itW, iRng, bName, bTup, bAll, eMt, ePush, eJoin, jsW, e1M, e2M, sAug, sSup, sFldS, sTree, wipeS, lenW, tupleW, frzb, toW, clsO, eSl, oSome, oNone, Sm.ret, Sm.bad, List.map_cons, List.map_nil, List.length_cons, List.length_nil, List.cons_append, List.nil_append, List.append_nil, List.replicate_succ, List.replicate_zero, List.set_cons_succ, List.set_cons_zero, List.getElem?_cons_succ, List.getElem?_cons_zero, List.length_append, List.length_map, if_true, if_false, reduceIte, Bool.true_and, Bool.and_true, Bool.not_true, Bool.not_false, Option.map_some, Option.map_none, Option.bind_some, Option.bind_none, le_size, lt_size, Nat.reduceLeDiff, Nat.reduceAdd, Nat.reduceSub, Nat.reducePow, Nat.zero_add, decide_eq_true_eq, Nat.reduceLT, gt_iff_lt, ge_iff_le, decide_true, decide_false, Bool.false_eq_true, Bool.or_true, Bool.true_or, Bool.or_false, Bool.false_or, Bool.false_and, Bool.and_false, or_true, true_or, and_true, true_and, or_false, false_or, and_false, false_and, and_self, not_false_eq_true, not_true_eq_false, b__law_head, N__law_head, told, zW, ixW, atI_0, atI_1, in2_str, eqW_str, isNW, addW, strM, clsW, strW, l]
      rfl
    · have l : (("while" : Str) ++ (" " : Str)).length + x.length ≤ 16777216 := by
        have : (("while" : Str) ++ (" " : Str)).length = 6 := rfl
        omega
      simp (decide := true) only [runB, runI, bnd, lift, exS, sSeq, sSeqF, sNil, sSet, sSetN, sSetL, sIf, sRet, sRetN, sExp, sFor, sExt, sApp, sFrz, sPar, sPar3, sUnp, sSetIx, sBrk, sCnt, eVar, rVar, eC, op1, op2, eCall, eNew, aCons, aNil, aStar, eTup, eL, nLst, nRev, nLc, eBlt, eIf, eAnd, eOr, eNotV, tTru, tBl, tNt, tAn, tOrr, tYesM, truW, blW, eChain, iSeq, itW, iRng, bName, bTup, bAll, eMt, ePush, eJoin, jsW, e1M, e2M, sAug, sSup, sFldS, sTree, wipeS, lenW, tupleW, frzb, toW, clsO, eSl, oSome, oNone, Sm.ret, Sm.bad, List.map_cons, List.map_nil, List.length_cons, List.length_nil, List.cons_append, List.nil_append, List.append_nil, List.replicate_succ, List.replicate_zero, List.set_cons_succ, List.set_cons_zero, List.getElem?_cons_succ, List.getElem?_cons_zero, List.length_append, List.length_map, if_true, if_false, reduceIte, Bool.true_and, Bool.and_true, Bool.not_true, Bool.not_false, Option.map_some, Option.map_none, Option.bind_some, Option.bind_none, le_size, lt_size, Nat.reduceLeDiff, Nat.reduceAdd, Nat.reduceSub, Nat.reducePow, Nat.zero_add, decide_eq_true_eq, Nat.reduceLT, gt_iff_lt, ge_iff_le, decide_true, decide_false, Bool.false_eq_true, Bool.or_true, Bool.true_or, Bool.or_false, Bool.false_or, Bool.false_and, Bool.and_false, or_true, true_or, and_true, true_and, or_false, false_or, and_false, false_and, and_self, not_false_eq_true, not_true_eq_false, b__law_head, N__law_head, told, zW, ixW, atI_0, atI_1, in2_str, eqW_str, isNW, addW, strM, clsW, strW, l]
      rfl
  | nt t =>
    rw [Sf__law_head]
    simp (decide := true) only [runB, runI, bnd, lift, exS, sSeq, sSeqF, sNil, sSet, sSetN, sSetL, sIf, sRet, sRetN, sExp, sFor, sExt, sApp, sFrz, sPar, sPar3, sUnp, sSetIx, sBrk, sCnt, eVar, rVar, eC, op1, op2, eCall, eNew, aCons, aNil, aStar, eTup, eL, nLst, nRev, nLc, eBlt, eIf, eAnd, eOr, eNotV, tTru, tBl, tNt, tAn, tOrr, tYesM, truW, blW, eChain, iSeq, itW, iRng, bName, bTup, bAll, eMt, ePush, eJoin, jsW, e1M, e2M, sAug, sSup, sFldS, sTree, wipeS, lenW, tupleW, frzb, toW, clsO, eSl, oSome, oNone, Sm.ret, Sm.bad, List.map_cons, List.map_nil, List.length_cons, List.length_nil, List.cons_append, List.nil_append, List.append_nil, List.replicate_succ, List.replicate_zero, List.set_cons_succ, List.set_cons_zero, List.getElem?_cons_succ, List.getElem?_cons_zero, List.length_append, List.length_map, if_true, if_false, reduceIte, Bool.true_and, Bool.and_true, Bool.not_true, Bool.not_false, Option.map_some, Option.map_none, Option.bind_some, Option.bind_none, le_size, lt_size, Nat.reduceLeDiff, Nat.reduceAdd, Nat.reduceSub, Nat.reducePow, Nat.zero_add, decide_eq_true_eq, Nat.reduceLT, gt_iff_lt, ge_iff_le, decide_true, decide_false, Bool.false_eq_true, Bool.or_true, Bool.true_or, Bool.or_false, Bool.false_or, Bool.false_and, Bool.and_false, or_true, true_or, and_true, true_and, or_false, false_or, and_false, false_and, and_self, not_false_eq_true, not_true_eq_false, b__law_head, N__law_head, told, ixW, atI_0, atI_1, in2_str, eqW_str, isNW, addW, strM, clsW, strW]
    rfl
  | alw w t =>
    rw [Sf__law_head]
    cases w <;> (simp (decide := true) only [runB, runI, bnd, lift, exS, sSeq, sSeqF, sNil, sSet, sSetN, sSetL, sIf, sRet, sRetN, sExp, sFor, sExt, sApp, sFrz, sPar, sPar3, sUnp, sSetIx, sBrk, sCnt, eVar, rVar, eC, op1, op2, eCall, eNew, aCons, aNil, aStar, eTup, eL, nLst, nRev, nLc, eBlt, eIf, eAnd, eOr, eNotV, tTru, tBl, tNt, tAn, tOrr, tYesM, truW, blW, eChain, iSeq, itW, iRng, bName, bTup, bAll, eMt, ePush, eJoin, jsW, e1M, e2M, sAug, sSup, sFldS, sTree, wipeS, lenW, tupleW, frzb, toW, clsO, eSl, oSome, oNone, Sm.ret, Sm.bad, List.map_cons, List.map_nil, List.length_cons, List.length_nil, List.cons_append, List.nil_append, List.append_nil, List.replicate_succ, List.replicate_zero, List.set_cons_succ, List.set_cons_zero, List.getElem?_cons_succ, List.getElem?_cons_zero, List.length_append, List.length_map, if_true, if_false, reduceIte, Bool.true_and, Bool.and_true, Bool.not_true, Bool.not_false, Option.map_some, Option.map_none, Option.bind_some, Option.bind_none, le_size, lt_size, Nat.reduceLeDiff, Nat.reduceAdd, Nat.reduceSub, Nat.reducePow, Nat.zero_add, decide_eq_true_eq, Nat.reduceLT, gt_iff_lt, ge_iff_le, decide_true, decide_false, Bool.false_eq_true, Bool.or_true, Bool.true_or, Bool.or_false, Bool.false_or, Bool.false_and, Bool.and_false, or_true, true_or, and_true, true_and, or_false, false_or, and_false, false_and, and_self, not_false_eq_true, not_true_eq_false, b__law_head, N__law_head, told, zA, ixW, atI_0, atI_1, in2_str, eqW_str, isNW, addW, strM, clsW, strW]; rfl)
end Pl

namespace Pl
open PySem PySem.Spec PyProof.Rows L2 Sm
def endL (t : T) : List Str := if isLong t then ["end"] else []
theorem lns_eq (t : T) : lns t = hd t :: (lnsL (kids t) ++ endL t) := by
  cases t <;> simp [lns, kids, lnsL, endL, isLong]
theorem cnt_eq (t : T) : cnt t = cntL (kids t) + 1 := by
  cases t <;> simp [cnt, kids, cntL]
theorem dep_kids {t s : T} {k : Nat} (h : dep t ≤ k + 1) (hs : s ∈ kids t) : dep s ≤ k := by
  have hl : ∀ (ks : List T), s ∈ ks → dep s ≤ depL ks := by
    intro ks
    induction ks with
    | nil => intro h; cases h
    | cons a r ih =>
      intro h
      simp only [depL]
      rcases List.mem_cons.mp h with e | e
      · subst e; omega
      · have := ih e; omega
  cases t with
  | leaf d x => cases hs
  | many r kp ks => have := hl ks hs; simp [dep] at h; omega
  | beside n ks => have := hl ks hs; simp [dep] at h; omega
  | again r t => simp [kids] at hs; subst hs; simp [dep] at h; omega
  | grd w x t => simp [kids] at hs; subst hs; simp [dep] at h; omega
  | nt t => simp [kids] at hs; subst hs; simp [dep] at h; omega
  | alw w t => simp [kids] at hs; subst hs; simp [dep] at h; omega
theorem wf_mem {s : T} : ∀ {ks : List T}, WfL ks → s ∈ ks → Wf s
  | [], _, h => by cases h
  | a :: r, hw, h => by
    simp only [WfL] at hw
    rcases List.mem_cons.mp h with e | e
    · subst e; exact hw.1
    · exact wf_mem hw.2 e
theorem wf_kidsL {t : T} (h : Wf t) : WfL (kids t) := by
  cases t with
  | leaf d x => trivial
  | many r kp ks => exact h
  | beside n ks => exact h.2.2
  | again r t => exact ⟨h.2, trivial⟩
  | grd w x t => exact ⟨h.2, trivial⟩
  | nt t => exact ⟨h, trivial⟩
  | alw w t => exact ⟨h, trivial⟩
theorem cnt_mem {s : T} : ∀ {ks : List T}, s ∈ ks → cnt s ≤ cntL ks
  | [], h => by cases h
  | a :: r, h => by
    simp only [cntL]
    rcases List.mem_cons.mp h with e | e
    · subst e; omega
    · have := cnt_mem e; omega
theorem cnt_kid {t s : T} (hs : s ∈ kids t) : cnt s + 1 ≤ cnt t := by
  have := cnt_mem hs
  have := cnt_eq t
  omega
theorem tag_long (t : T) (m : Sto) : ∃ x, atI (match told t with | .tup l => l | _ => []) 0 = some (.str x) ∧ inW (.str x) (.tup [.str "row", .str "first", .str "beside"]) m = some (.bl (isLong t)) := by
  cases t with
  | leaf d x => cases d <;> exact ⟨_, by simp only [told, atI_0]; rfl, by rw [in3_str]; rfl⟩
  | many d x ks => cases d <;> exact ⟨_, by simp only [told, atI_0]; rfl, by rw [in3_str]; rfl⟩
  | grd d x t => cases d <;> exact ⟨_, by simp only [told, atI_0]; rfl, by rw [in3_str]; rfl⟩
  | _ => exact ⟨_, by simp only [told, atI_0]; rfl, by rw [in3_str]; rfl⟩
theorem ix_tag (t : T) (m : Sto) : ∃ x, ixW (told t) (.int 0) m = some (.str x) ∧ inW (.str x) (.tup [.str "row", .str "first", .str "beside"]) m = some (.bl (isLong t)) := by
  obtain ⟨x, h1, h2⟩ := tag_long t m
  refine ⟨x, ?_, h2⟩
  cases t <;> (simp only [told] at h1 ⊢; simpa [ixW] using h1)
theorem script_loop (Γ : Gam) (m : Sto) (v0 : Sl) : ∀ (ks : List T) (acc : List Str) (u : Sl), (∀ t ∈ ks, Γ.f 15 [told t] m = .ok (.lst ((lns t).map .str)) m) → acc.length + (lnsL ks).length ≤ 16777216 →
    ∃ u', forW (bName 2) (sSet 1 (op2 addW (rVar 1) (eCall 1 (Γ.f 15) [] (aCons (eVar 2) aNil)))) (toldL ks) [v0, .val (.lst (acc.map .str)), u] m = .ok (.nx [v0, .val (.lst ((acc ++ lnsL ks).map .str)), u']) m
  | [], acc, u, _, _ => ⟨u, by simp [forW, toldL, lnsL, sNil]⟩
  | t :: ks, acc, u, h, hz => by
    have hz1 : acc.length + (lns t).length ≤ 16777216 := by simp [lnsL] at hz; omega
    obtain ⟨u', e⟩ := script_loop Γ m v0 ks (acc ++ lns t) (.val (told t)) (fun s hs => h s (List.mem_cons_of_mem _ hs)) (by simp [lnsL] at hz ⊢; omega)
    refine ⟨u', ?_⟩
    have e1 := h t (List.mem_cons_self ..)
    simp (decide := true) only [runB, runI, bnd, lift, exS, sSeq, sSeqF, sNil, sSet, sSetN, sSetL, sIf, sRet, sRetN, sExp, sFor, sExt, sApp, sFrz, sPar, sPar3, sUnp, sSetIx, sBrk, sCnt, eVar, rVar, eC, op1, op2, eCall, eNew, aCons, aNil, aStar, eTup, eL, nLst, nRev, nLc, eBlt, eIf, eAnd, eOr, eNotV, tTru, tBl, tNt, tAn, tOrr, tYesM, truW, blW, eChain, iSeq, itW, iRng, bName, bTup, bAll, eMt, ePush, eJoin, jsW, e1M, e2M, sAug, sSup, sFldS, sTree, wipeS, lenW, tupleW, frzb, toW, clsO, eSl, oSome, oNone, Sm.ret, Sm.bad, List.map_cons, List.map_nil, List.length_cons, List.length_nil, List.cons_append, List.nil_append, List.append_nil, List.replicate_succ, List.replicate_zero, List.set_cons_succ, List.set_cons_zero, List.getElem?_cons_succ, List.getElem?_cons_zero, List.length_append, List.length_map, if_true, if_false, reduceIte, Bool.true_and, Bool.and_true, Bool.not_true, Bool.not_false, Option.map_some, Option.map_none, Option.bind_some, Option.bind_none, le_size, lt_size, Nat.reduceLeDiff, Nat.reduceAdd, Nat.reduceSub, Nat.reducePow, Nat.zero_add, decide_eq_true_eq, Nat.reduceLT, gt_iff_lt, ge_iff_le, decide_true, decide_false, Bool.false_eq_true, Bool.or_true, Bool.true_or, Bool.or_false, Bool.false_or, Bool.false_and, Bool.and_false, or_true, true_or, and_true, true_and, or_false, false_or, and_false, false_and, and_self, not_false_eq_true, not_true_eq_false, forW, toldL, lnsL, addW, e1, hz1]
    simp only [List.map_append, List.append_assoc] at e ⊢
    rw [e]
theorem script_step (k : Nat) (m : Sto) (t : T) (hw : Wf t) (hz : 2 * cnt t ≤ 16777216) (h : ∀ s ∈ kids t, (Sv (k + 1)).f 15 [told s] m = .ok (.lst ((lns s).map .str)) m) : (Sv (k + 2)).f 15 [told t] m = .ok (.lst ((lns t).map .str)) m := by
  rw [Sf__law_script]
  have hl := lns_cnt t
  rw [lns_eq] at hl
  simp only [List.length_cons, List.length_append] at hl
  have hs : ∀ n ks, t = .beside n ks → ks.length ≤ 16777216 := by
    intro n ks e
    subst e
    have := len_cnt ks
    simp [cnt] at hz
    omega
  obtain ⟨u', e⟩ := script_loop (Sv (k + 1)) m (.val (told t)) (kids t) [hd t] .un h (by simp only [List.length_cons, List.length_nil]; omega)
  obtain ⟨x, e1, e2⟩ := ix_tag t m
  simp only [List.map_cons, List.map_nil] at e
  simp (decide := true) only [runB, runI, bnd, lift, exS, sSeq, sSeqF, sNil, sSet, sSetN, sSetL, sIf, sRet, sRetN, sExp, sFor, sExt, sApp, sFrz, sPar, sPar3, sUnp, sSetIx, sBrk, sCnt, eVar, rVar, eC, op1, op2, eCall, eNew, aCons, aNil, aStar, eTup, eL, nLst, nRev, nLc, eBlt, eIf, eAnd, eOr, eNotV, tTru, tBl, tNt, tAn, tOrr, tYesM, truW, blW, eChain, iSeq, itW, iRng, bName, bTup, bAll, eMt, ePush, eJoin, jsW, e1M, e2M, sAug, sSup, sFldS, sTree, wipeS, lenW, tupleW, frzb, toW, clsO, eSl, oSome, oNone, Sm.ret, Sm.bad, List.map_cons, List.map_nil, List.length_cons, List.length_nil, List.cons_append, List.nil_append, List.append_nil, List.replicate_succ, List.replicate_zero, List.set_cons_succ, List.set_cons_zero, List.getElem?_cons_succ, List.getElem?_cons_zero, List.length_append, List.length_map, if_true, if_false, reduceIte, Bool.true_and, Bool.and_true, Bool.not_true, Bool.not_false, Option.map_some, Option.map_none, Option.bind_some, Option.bind_none, le_size, lt_size, Nat.reduceLeDiff, Nat.reduceAdd, Nat.reduceSub, Nat.reducePow, Nat.zero_add, decide_eq_true_eq, Nat.reduceLT, gt_iff_lt, ge_iff_le, decide_true, decide_false, Bool.false_eq_true, Bool.or_true, Bool.true_or, Bool.or_false, Bool.false_or, Bool.false_and, Bool.and_false, or_true, true_or, and_true, true_and, or_false, false_or, and_false, false_and, and_self, not_false_eq_true, not_true_eq_false, b__law_script, N__law_script, head_ok k t hw hs, blocks_ok, e, e1, e2]
  rw [lns_eq t]
  cases hi : isLong t
  · have hl2 : (lnsL (kids t)).length + 1 ≤ 16777216 := by omega
    simp (decide := true) only [runB, runI, bnd, lift, exS, sSeq, sSeqF, sNil, sSet, sSetN, sSetL, sIf, sRet, sRetN, sExp, sFor, sExt, sApp, sFrz, sPar, sPar3, sUnp, sSetIx, sBrk, sCnt, eVar, rVar, eC, op1, op2, eCall, eNew, aCons, aNil, aStar, eTup, eL, nLst, nRev, nLc, eBlt, eIf, eAnd, eOr, eNotV, tTru, tBl, tNt, tAn, tOrr, tYesM, truW, blW, eChain, iSeq, itW, iRng, bName, bTup, bAll, eMt, ePush, eJoin, jsW, e1M, e2M, sAug, sSup, sFldS, sTree, wipeS, lenW, tupleW, frzb, toW, clsO, eSl, oSome, oNone, Sm.ret, Sm.bad, List.map_cons, List.map_nil, List.length_cons, List.length_nil, List.cons_append, List.nil_append, List.append_nil, List.replicate_succ, List.replicate_zero, List.set_cons_succ, List.set_cons_zero, List.getElem?_cons_succ, List.getElem?_cons_zero, List.length_append, List.length_map, if_true, if_false, reduceIte, Bool.true_and, Bool.and_true, Bool.not_true, Bool.not_false, Option.map_some, Option.map_none, Option.bind_some, Option.bind_none, le_size, lt_size, Nat.reduceLeDiff, Nat.reduceAdd, Nat.reduceSub, Nat.reducePow, Nat.zero_add, decide_eq_true_eq, Nat.reduceLT, gt_iff_lt, ge_iff_le, decide_true, decide_false, Bool.false_eq_true, Bool.or_true, Bool.true_or, Bool.or_false, Bool.false_or, Bool.false_and, Bool.and_false, or_true, true_or, and_true, true_and, or_false, false_or, and_false, false_and, and_self, not_false_eq_true, not_true_eq_false, addW, endL, hi, hl2]
  · have hl2 : (lnsL (kids t)).length + 1 + 1 ≤ 16777216 := by simp [endL, hi] at hl; omega
    simp (decide := true) only [runB, runI, bnd, lift, exS, sSeq, sSeqF, sNil, sSet, sSetN, sSetL, sIf, sRet, sRetN, sExp, sFor, sExt, sApp, sFrz, sPar, sPar3, sUnp, sSetIx, sBrk, sCnt, eVar, rVar, eC, op1, op2, eCall, eNew, aCons, aNil, aStar, eTup, eL, nLst, nRev, nLc, eBlt, eIf, eAnd, eOr, eNotV, tTru, tBl, tNt, tAn, tOrr, tYesM, truW, blW, eChain, iSeq, itW, iRng, bName, bTup, bAll, eMt, ePush, eJoin, jsW, e1M, e2M, sAug, sSup, sFldS, sTree, wipeS, lenW, tupleW, frzb, toW, clsO, eSl, oSome, oNone, Sm.ret, Sm.bad, List.map_cons, List.map_nil, List.length_cons, List.length_nil, List.cons_append, List.nil_append, List.append_nil, List.replicate_succ, List.replicate_zero, List.set_cons_succ, List.set_cons_zero, List.getElem?_cons_succ, List.getElem?_cons_zero, List.length_append, List.length_map, if_true, if_false, reduceIte, Bool.true_and, Bool.and_true, Bool.not_true, Bool.not_false, Option.map_some, Option.map_none, Option.bind_some, Option.bind_none, le_size, lt_size, Nat.reduceLeDiff, Nat.reduceAdd, Nat.reduceSub, Nat.reducePow, Nat.zero_add, decide_eq_true_eq, Nat.reduceLT, gt_iff_lt, ge_iff_le, decide_true, decide_false, Bool.false_eq_true, Bool.or_true, Bool.true_or, Bool.or_false, Bool.false_or, Bool.false_and, Bool.and_false, or_true, true_or, and_true, true_and, or_false, false_or, and_false, false_and, and_self, not_false_eq_true, not_true_eq_false, addW, endL, hi, hl2]
    simp
theorem script_ok (m : Sto) : ∀ (k : Nat) (t : T), Wf t → dep t ≤ k → 2 * cnt t ≤ 16777216 → (Sv (k + 2)).f 15 [told t] m = .ok (.lst ((lns t).map .str)) m
  | 0, t, hw, hd, hz => script_step 0 m t hw hz (by
    intro s hs
    cases t <;> simp [dep] at hd
    cases hs)
  | k + 1, t, hw, hd, hz => script_step (k + 1) m t hw hz fun s hs => script_ok m k s (wf_mem (wf_kidsL hw) hs) (dep_kids hd hs) (by have := cnt_kid hs; omega)
end Pl

namespace Pl
open PySem PySem.Spec PyProof.Rows L2 Sm
theorem make_loop (Γ : Gam) (m : Sto) (v0 v1 v2 : Sl) : ∀ (ks : List T), (∀ t ∈ ks, Γ.f 17 [told t] m = .ok (tw t) m) →
    lcM (bName 2) tYesM (eCall 1 (Γ.f 17) [] (aCons (eVar 2) aNil)) [v0, v1, v2] (toldL ks) m = .ok (twL ks) m
  | [], _ => rfl
  | t :: ks, h => by
    have ih := make_loop Γ m v0 v1 v2 ks fun s hs => h s (List.mem_cons_of_mem _ hs)
    have e := h t (List.mem_cons_self ..)
    simp (decide := true) only [runB, runI, bnd, lift, exS, sSeq, sSeqF, sNil, sSet, sSetN, sSetL, sIf, sRet, sRetN, sExp, sFor, sExt, sApp, sFrz, sPar, sPar3, sUnp, sSetIx, sBrk, sCnt, eVar, rVar, eC, op1, op2, eCall, eNew, aCons, aNil, aStar, eTup, eL, nLst, nRev, nLc, eBlt, eIf, eAnd, eOr, eNotV, tTru, tBl, tNt, tAn, tOrr, tYesM, truW, blW, eChain, iSeq, itW, iRng, bName, bTup, bAll, eMt, ePush, eJoin, jsW, e1M, e2M, sAug, sSup, sFldS, sTree, wipeS, lenW, tupleW, frzb, toW, clsO, eSl, oSome, oNone, Sm.ret, Sm.bad, List.map_cons, List.map_nil, List.length_cons, List.length_nil, List.cons_append, List.nil_append, List.append_nil, List.replicate_succ, List.replicate_zero, List.set_cons_succ, List.set_cons_zero, List.getElem?_cons_succ, List.getElem?_cons_zero, List.length_append, List.length_map, if_true, if_false, reduceIte, Bool.true_and, Bool.and_true, Bool.not_true, Bool.not_false, Option.map_some, Option.map_none, Option.bind_some, Option.bind_none, le_size, lt_size, Nat.reduceLeDiff, Nat.reduceAdd, Nat.reduceSub, Nat.reducePow, Nat.zero_add, decide_eq_true_eq, Nat.reduceLT, gt_iff_lt, ge_iff_le, decide_true, decide_false, Bool.false_eq_true, Bool.or_true, Bool.true_or, Bool.or_false, Bool.false_or, Bool.false_and, Bool.and_false, or_true, true_or, and_true, true_and, or_false, false_or, and_false, false_and, and_self, not_false_eq_true, not_true_eq_false, lcM, toldL, twL, e]
    rw [ih]
theorem make_step (k : Nat) (m : Sto) (t : T) (hw : Wf t) (hz : 2 * cnt t ≤ 16777216) (h : ∀ s ∈ kids t, (Sv (k + 3)).f 17 [told s] m = .ok (tw s) m) : (Sv (k + 4)).f 17 [told t] m = .ok (tw t) m := by
  rw [Sf__law_make]
  have el := make_loop (Sv (k + 3)) m (.val (told t)) .un .un (kids t) h
  have hn : (kids t).length ≤ 16777216 := by
    have := len_cnt (kids t)
    have := cnt_eq t
    omega
  have hsz : Sz (kids t) := ⟨by have := cnt_eq t; omega⟩
  have hn2 := twL_len (kids t)
  simp (decide := true) only [runB, runI, bnd, lift, exS, sSeq, sSeqF, sNil, sSet, sSetN, sSetL, sIf, sRet, sRetN, sExp, sFor, sExt, sApp, sFrz, sPar, sPar3, sUnp, sSetIx, sBrk, sCnt, eVar, rVar, eC, op1, op2, eCall, eNew, aCons, aNil, aStar, eTup, eL, nLst, nRev, nLc, eBlt, eIf, eAnd, eOr, eNotV, tTru, tBl, tNt, tAn, tOrr, tYesM, truW, blW, eChain, iSeq, itW, iRng, bName, bTup, bAll, eMt, ePush, eJoin, jsW, e1M, e2M, sAug, sSup, sFldS, sTree, wipeS, lenW, tupleW, frzb, toW, clsO, eSl, oSome, oNone, Sm.ret, Sm.bad, List.map_cons, List.map_nil, List.length_cons, List.length_nil, List.cons_append, List.nil_append, List.append_nil, List.replicate_succ, List.replicate_zero, List.set_cons_succ, List.set_cons_zero, List.getElem?_cons_succ, List.getElem?_cons_zero, List.length_append, List.length_map, if_true, if_false, reduceIte, Bool.true_and, Bool.and_true, Bool.not_true, Bool.not_false, Option.map_some, Option.map_none, Option.bind_some, Option.bind_none, le_size, lt_size, Nat.reduceLeDiff, Nat.reduceAdd, Nat.reduceSub, Nat.reducePow, Nat.zero_add, decide_eq_true_eq, Nat.reduceLT, gt_iff_lt, ge_iff_le, decide_true, decide_false, Bool.false_eq_true, Bool.or_true, Bool.true_or, Bool.or_false, Bool.false_or, Bool.false_and, Bool.and_false, or_true, true_or, and_true, true_and, or_false, false_or, and_false, false_and, and_self, not_false_eq_true, not_true_eq_false, b__law_make, N__law_make, blocks_ok, el, hn2, hn]
  cases t with
  | leaf d x =>
    cases d
    · simp (decide := true) only [runB, runI, bnd, lift, exS, sSeq, sSeqF, sNil, sSet, sSetN, sSetL, sIf, sRet, sRetN, sExp, sFor, sExt, sApp, sFrz, sPar, sPar3, sUnp, sSetIx, sBrk, sCnt, eVar, rVar, eC, op1, op2, eCall, eNew, aCons, aNil, aStar, eTup, eL, nLst, nRev, nLc, eBlt, eIf, eAnd, eOr, eNotV, tTru, tBl, tNt, tAn, tOrr, tYesM, truW, blW, eChain, iSeq, itW, iRng, bName, bTup, bAll, eMt, ePush, eJoin, jsW, e1M, e2M, sAug, sSup, sFldS, sTree, wipeS, lenW, tupleW, frzb, toW, clsO, eSl, oSome, oNone, Sm.ret, Sm.bad, List.map_cons, List.map_nil, List.length_cons, List.length_nil, List.cons_append, List.nil_append, List.append_nil, List.replicate_succ, List.replicate_zero, List.set_cons_succ, List.set_cons_zero, List.getElem?_cons_succ, List.getElem?_cons_zero, List.length_append, List.length_map, if_true, if_false, reduceIte, Bool.true_and, Bool.and_true, Bool.not_true, Bool.not_false, Option.map_some, Option.map_none, Option.bind_some, Option.bind_none, le_size, lt_size, Nat.reduceLeDiff, Nat.reduceAdd, Nat.reduceSub, Nat.reducePow, Nat.zero_add, decide_eq_true_eq, Nat.reduceLT, gt_iff_lt, ge_iff_le, decide_true, decide_false, Bool.false_eq_true, Bool.or_true, Bool.true_or, Bool.or_false, Bool.false_or, Bool.false_and, Bool.and_false, or_true, true_or, and_true, true_and, or_false, false_or, and_false, false_and, and_self, not_false_eq_true, not_true_eq_false, kids, twL, told, zD, ixW, atI_0, atI_1, eqW_str, ask_ok k hw]
    · simp (decide := true) only [runB, runI, bnd, lift, exS, sSeq, sSeqF, sNil, sSet, sSetN, sSetL, sIf, sRet, sRetN, sExp, sFor, sExt, sApp, sFrz, sPar, sPar3, sUnp, sSetIx, sBrk, sCnt, eVar, rVar, eC, op1, op2, eCall, eNew, aCons, aNil, aStar, eTup, eL, nLst, nRev, nLc, eBlt, eIf, eAnd, eOr, eNotV, tTru, tBl, tNt, tAn, tOrr, tYesM, truW, blW, eChain, iSeq, itW, iRng, bName, bTup, bAll, eMt, ePush, eJoin, jsW, e1M, e2M, sAug, sSup, sFldS, sTree, wipeS, lenW, tupleW, frzb, toW, clsO, eSl, oSome, oNone, Sm.ret, Sm.bad, List.map_cons, List.map_nil, List.length_cons, List.length_nil, List.cons_append, List.nil_append, List.append_nil, List.replicate_succ, List.replicate_zero, List.set_cons_succ, List.set_cons_zero, List.getElem?_cons_succ, List.getElem?_cons_zero, List.length_append, List.length_map, if_true, if_false, reduceIte, Bool.true_and, Bool.and_true, Bool.not_true, Bool.not_false, Option.map_some, Option.map_none, Option.bind_some, Option.bind_none, le_size, lt_size, Nat.reduceLeDiff, Nat.reduceAdd, Nat.reduceSub, Nat.reducePow, Nat.zero_add, decide_eq_true_eq, Nat.reduceLT, gt_iff_lt, ge_iff_le, decide_true, decide_false, Bool.false_eq_true, Bool.or_true, Bool.true_or, Bool.or_false, Bool.false_or, Bool.false_and, Bool.and_false, or_true, true_or, and_true, true_and, or_false, false_or, and_false, false_and, and_self, not_false_eq_true, not_true_eq_false, kids, twL, told, zD, ixW, atI_0, atI_1, eqW_str, do_ok k hw]
  | many r kp ks =>
    simp only [kids] at hsz
    cases r
    · simp (decide := true) only [runB, runI, bnd, lift, exS, sSeq, sSeqF, sNil, sSet, sSetN, sSetL, sIf, sRet, sRetN, sExp, sFor, sExt, sApp, sFrz, sPar, sPar3, sUnp, sSetIx, sBrk, sCnt, eVar, rVar, eC, op1, op2, eCall, eNew, aCons, aNil, aStar, eTup, eL, nLst, nRev, nLc, eBlt, eIf, eAnd, eOr, eNotV, tTru, tBl, tNt, tAn, tOrr, tYesM, truW, blW, eChain, iSeq, itW, iRng, bName, bTup, bAll, eMt, ePush, eJoin, jsW, e1M, e2M, sAug, sSup, sFldS, sTree, wipeS, lenW, tupleW, frzb, toW, clsO, eSl, oSome, oNone, Sm.ret, Sm.bad, List.map_cons, List.map_nil, List.length_cons, List.length_nil, List.cons_append, List.nil_append, List.append_nil, List.replicate_succ, List.replicate_zero, List.set_cons_succ, List.set_cons_zero, List.getElem?_cons_succ, List.getElem?_cons_zero, List.length_append, List.length_map, if_true, if_false, reduceIte, Bool.true_and, Bool.and_true, Bool.not_true, Bool.not_false, Option.map_some, Option.map_none, Option.bind_some, Option.bind_none, le_size, lt_size, Nat.reduceLeDiff, Nat.reduceAdd, Nat.reduceSub, Nat.reducePow, Nat.zero_add, decide_eq_true_eq, Nat.reduceLT, gt_iff_lt, ge_iff_le, decide_true, decide_false, Bool.false_eq_true, Bool.or_true, Bool.true_or, Bool.or_false, Bool.false_or, Bool.false_and, Bool.and_false, or_true, true_or, and_true, true_and, or_false, false_or, and_false, false_and, and_self, not_false_eq_true, not_true_eq_false, kids, told, zR, ixW, atI_0, atI_1, eqW_str, firstT_ok k hsz]
    · simp (decide := true) only [runB, runI, bnd, lift, exS, sSeq, sSeqF, sNil, sSet, sSetN, sSetL, sIf, sRet, sRetN, sExp, sFor, sExt, sApp, sFrz, sPar, sPar3, sUnp, sSetIx, sBrk, sCnt, eVar, rVar, eC, op1, op2, eCall, eNew, aCons, aNil, aStar, eTup, eL, nLst, nRev, nLc, eBlt, eIf, eAnd, eOr, eNotV, tTru, tBl, tNt, tAn, tOrr, tYesM, truW, blW, eChain, iSeq, itW, iRng, bName, bTup, bAll, eMt, ePush, eJoin, jsW, e1M, e2M, sAug, sSup, sFldS, sTree, wipeS, lenW, tupleW, frzb, toW, clsO, eSl, oSome, oNone, Sm.ret, Sm.bad, List.map_cons, List.map_nil, List.length_cons, List.length_nil, List.cons_append, List.nil_append, List.append_nil, List.replicate_succ, List.replicate_zero, List.set_cons_succ, List.set_cons_zero, List.getElem?_cons_succ, List.getElem?_cons_zero, List.length_append, List.length_map, if_true, if_false, reduceIte, Bool.true_and, Bool.and_true, Bool.not_true, Bool.not_false, Option.map_some, Option.map_none, Option.bind_some, Option.bind_none, le_size, lt_size, Nat.reduceLeDiff, Nat.reduceAdd, Nat.reduceSub, Nat.reducePow, Nat.zero_add, decide_eq_true_eq, Nat.reduceLT, gt_iff_lt, ge_iff_le, decide_true, decide_false, Bool.false_eq_true, Bool.or_true, Bool.true_or, Bool.or_false, Bool.false_or, Bool.false_and, Bool.and_false, or_true, true_or, and_true, true_and, or_false, false_or, and_false, false_and, and_self, not_false_eq_true, not_true_eq_false, kids, told, zR, ixW, atI_0, atI_1, eqW_str, rowL_ok k hsz]
  | beside n ks =>
    simp only [kids] at hsz
    simp (decide := true) only [runB, runI, bnd, lift, exS, sSeq, sSeqF, sNil, sSet, sSetN, sSetL, sIf, sRet, sRetN, sExp, sFor, sExt, sApp, sFrz, sPar, sPar3, sUnp, sSetIx, sBrk, sCnt, eVar, rVar, eC, op1, op2, eCall, eNew, aCons, aNil, aStar, eTup, eL, nLst, nRev, nLc, eBlt, eIf, eAnd, eOr, eNotV, tTru, tBl, tNt, tAn, tOrr, tYesM, truW, blW, eChain, iSeq, itW, iRng, bName, bTup, bAll, eMt, ePush, eJoin, jsW, e1M, e2M, sAug, sSup, sFldS, sTree, wipeS, lenW, tupleW, frzb, toW, clsO, eSl, oSome, oNone, Sm.ret, Sm.bad, List.map_cons, List.map_nil, List.length_cons, List.length_nil, List.cons_append, List.nil_append, List.append_nil, List.replicate_succ, List.replicate_zero, List.set_cons_succ, List.set_cons_zero, List.getElem?_cons_succ, List.getElem?_cons_zero, List.length_append, List.length_map, if_true, if_false, reduceIte, Bool.true_and, Bool.and_true, Bool.not_true, Bool.not_false, Option.map_some, Option.map_none, Option.bind_some, Option.bind_none, le_size, lt_size, Nat.reduceLeDiff, Nat.reduceAdd, Nat.reduceSub, Nat.reducePow, Nat.zero_add, decide_eq_true_eq, Nat.reduceLT, gt_iff_lt, ge_iff_le, decide_true, decide_false, Bool.false_eq_true, Bool.or_true, Bool.true_or, Bool.or_false, Bool.false_or, Bool.false_and, Bool.and_false, or_true, true_or, and_true, true_and, or_false, false_or, and_false, false_and, and_self, not_false_eq_true, not_true_eq_false, kids, told, ixW, atI_0, atI_1, eqW_str, besideL_ok k hsz hw.1 hw.2.1]
  | again r s =>
    simp only [kids] at hsz
    have e2 := again_ok k hsz (r := r) (fun i e => by have := hw.1 i e; omega) m
    simp (decide := true) only [runB, runI, bnd, lift, exS, sSeq, sSeqF, sNil, sSet, sSetN, sSetL, sIf, sRet, sRetN, sExp, sFor, sExt, sApp, sFrz, sPar, sPar3, sUnp, sSetIx, sBrk, sCnt, eVar, rVar, eC, op1, op2, eCall, eNew, aCons, aNil, aStar, eTup, eL, nLst, nRev, nLc, eBlt, eIf, eAnd, eOr, eNotV, tTru, tBl, tNt, tAn, tOrr, tYesM, truW, blW, eChain, iSeq, itW, iRng, bName, bTup, bAll, eMt, ePush, eJoin, jsW, e1M, e2M, sAug, sSup, sFldS, sTree, wipeS, lenW, tupleW, frzb, toW, clsO, eSl, oSome, oNone, Sm.ret, Sm.bad, List.map_cons, List.map_nil, List.length_cons, List.length_nil, List.cons_append, List.nil_append, List.append_nil, List.replicate_succ, List.replicate_zero, List.set_cons_succ, List.set_cons_zero, List.getElem?_cons_succ, List.getElem?_cons_zero, List.length_append, List.length_map, if_true, if_false, reduceIte, Bool.true_and, Bool.and_true, Bool.not_true, Bool.not_false, Option.map_some, Option.map_none, Option.bind_some, Option.bind_none, le_size, lt_size, Nat.reduceLeDiff, Nat.reduceAdd, Nat.reduceSub, Nat.reducePow, Nat.zero_add, decide_eq_true_eq, Nat.reduceLT, gt_iff_lt, ge_iff_le, decide_true, decide_false, Bool.false_eq_true, Bool.or_true, Bool.true_or, Bool.or_false, Bool.false_or, Bool.false_and, Bool.and_false, or_true, true_or, and_true, true_and, or_false, false_or, and_false, false_and, and_self, not_false_eq_true, not_true_eq_false, kids, told, twL, ixW, atI_0, atI_1, eqW_str, e2]
  | grd w x s =>
    simp only [kids] at hsz
    cases w
    · simp (decide := true) only [runB, runI, bnd, lift, exS, sSeq, sSeqF, sNil, sSet, sSetN, sSetL, sIf, sRet, sRetN, sExp, sFor, sExt, sApp, sFrz, sPar, sPar3, sUnp, sSetIx, sBrk, sCnt, eVar, rVar, eC, op1, op2, eCall, eNew, aCons, aNil, aStar, eTup, eL, nLst, nRev, nLc, eBlt, eIf, eAnd, eOr, eNotV, tTru, tBl, tNt, tAn, tOrr, tYesM, truW, blW, eChain, iSeq, itW, iRng, bName, bTup, bAll, eMt, ePush, eJoin, jsW, e1M, e2M, sAug, sSup, sFldS, sTree, wipeS, lenW, tupleW, frzb, toW, clsO, eSl, oSome, oNone, Sm.ret, Sm.bad, List.map_cons, List.map_nil, List.length_cons, List.length_nil, List.cons_append, List.nil_append, List.append_nil, List.replicate_succ, List.replicate_zero, List.set_cons_succ, List.set_cons_zero, List.getElem?_cons_succ, List.getElem?_cons_zero, List.length_append, List.length_map, if_true, if_false, reduceIte, Bool.true_and, Bool.and_true, Bool.not_true, Bool.not_false, Option.map_some, Option.map_none, Option.bind_some, Option.bind_none, le_size, lt_size, Nat.reduceLeDiff, Nat.reduceAdd, Nat.reduceSub, Nat.reducePow, Nat.zero_add, decide_eq_true_eq, Nat.reduceLT, gt_iff_lt, ge_iff_le, decide_true, decide_false, Bool.false_eq_true, Bool.or_true, Bool.true_or, Bool.or_false, Bool.false_or, Bool.false_and, Bool.and_false, or_true, true_or, and_true, true_and, or_false, false_or, and_false, false_and, and_self, not_false_eq_true, not_true_eq_false, kids, told, twL, zW, ixW, atI_0, atI_1, eqW_str, if_ok k hsz hw.1]
    · simp (decide := true) only [runB, runI, bnd, lift, exS, sSeq, sSeqF, sNil, sSet, sSetN, sSetL, sIf, sRet, sRetN, sExp, sFor, sExt, sApp, sFrz, sPar, sPar3, sUnp, sSetIx, sBrk, sCnt, eVar, rVar, eC, op1, op2, eCall, eNew, aCons, aNil, aStar, eTup, eL, nLst, nRev, nLc, eBlt, eIf, eAnd, eOr, eNotV, tTru, tBl, tNt, tAn, tOrr, tYesM, truW, blW, eChain, iSeq, itW, iRng, bName, bTup, bAll, eMt, ePush, eJoin, jsW, e1M, e2M, sAug, sSup, sFldS, sTree, wipeS, lenW, tupleW, frzb, toW, clsO, eSl, oSome, oNone, Sm.ret, Sm.bad, List.map_cons, List.map_nil, List.length_cons, List.length_nil, List.cons_append, List.nil_append, List.append_nil, List.replicate_succ, List.replicate_zero, List.set_cons_succ, List.set_cons_zero, List.getElem?_cons_succ, List.getElem?_cons_zero, List.length_append, List.length_map, if_true, if_false, reduceIte, Bool.true_and, Bool.and_true, Bool.not_true, Bool.not_false, Option.map_some, Option.map_none, Option.bind_some, Option.bind_none, le_size, lt_size, Nat.reduceLeDiff, Nat.reduceAdd, Nat.reduceSub, Nat.reducePow, Nat.zero_add, decide_eq_true_eq, Nat.reduceLT, gt_iff_lt, ge_iff_le, decide_true, decide_false, Bool.false_eq_true, Bool.or_true, Bool.true_or, Bool.or_false, Bool.false_or, Bool.false_and, Bool.and_false, or_true, true_or, and_true, true_and, or_false, false_or, and_false, false_and, and_self, not_false_eq_true, not_true_eq_false, kids, told, twL, zW, ixW, atI_0, atI_1, eqW_str, while_ok k hsz hw.1]
  | nt s =>
    simp only [kids] at hsz
    simp (decide := true) only [runB, runI, bnd, lift, exS, sSeq, sSeqF, sNil, sSet, sSetN, sSetL, sIf, sRet, sRetN, sExp, sFor, sExt, sApp, sFrz, sPar, sPar3, sUnp, sSetIx, sBrk, sCnt, eVar, rVar, eC, op1, op2, eCall, eNew, aCons, aNil, aStar, eTup, eL, nLst, nRev, nLc, eBlt, eIf, eAnd, eOr, eNotV, tTru, tBl, tNt, tAn, tOrr, tYesM, truW, blW, eChain, iSeq, itW, iRng, bName, bTup, bAll, eMt, ePush, eJoin, jsW, e1M, e2M, sAug, sSup, sFldS, sTree, wipeS, lenW, tupleW, frzb, toW, clsO, eSl, oSome, oNone, Sm.ret, Sm.bad, List.map_cons, List.map_nil, List.length_cons, List.length_nil, List.cons_append, List.nil_append, List.append_nil, List.replicate_succ, List.replicate_zero, List.set_cons_succ, List.set_cons_zero, List.getElem?_cons_succ, List.getElem?_cons_zero, List.length_append, List.length_map, if_true, if_false, reduceIte, Bool.true_and, Bool.and_true, Bool.not_true, Bool.not_false, Option.map_some, Option.map_none, Option.bind_some, Option.bind_none, le_size, lt_size, Nat.reduceLeDiff, Nat.reduceAdd, Nat.reduceSub, Nat.reducePow, Nat.zero_add, decide_eq_true_eq, Nat.reduceLT, gt_iff_lt, ge_iff_le, decide_true, decide_false, Bool.false_eq_true, Bool.or_true, Bool.true_or, Bool.or_false, Bool.false_or, Bool.false_and, Bool.and_false, or_true, true_or, and_true, true_and, or_false, false_or, and_false, false_and, and_self, not_false_eq_true, not_true_eq_false, kids, told, twL, ixW, atI_0, atI_1, eqW_str, not_ok k hsz]
  | alw w s =>
    simp only [kids] at hsz
    simp (decide := true) only [runB, runI, bnd, lift, exS, sSeq, sSeqF, sNil, sSet, sSetN, sSetL, sIf, sRet, sRetN, sExp, sFor, sExt, sApp, sFrz, sPar, sPar3, sUnp, sSetIx, sBrk, sCnt, eVar, rVar, eC, op1, op2, eCall, eNew, aCons, aNil, aStar, eTup, eL, nLst, nRev, nLc, eBlt, eIf, eAnd, eOr, eNotV, tTru, tBl, tNt, tAn, tOrr, tYesM, truW, blW, eChain, iSeq, itW, iRng, bName, bTup, bAll, eMt, ePush, eJoin, jsW, e1M, e2M, sAug, sSup, sFldS, sTree, wipeS, lenW, tupleW, frzb, toW, clsO, eSl, oSome, oNone, Sm.ret, Sm.bad, List.map_cons, List.map_nil, List.length_cons, List.length_nil, List.cons_append, List.nil_append, List.append_nil, List.replicate_succ, List.replicate_zero, List.set_cons_succ, List.set_cons_zero, List.getElem?_cons_succ, List.getElem?_cons_zero, List.length_append, List.length_map, if_true, if_false, reduceIte, Bool.true_and, Bool.and_true, Bool.not_true, Bool.not_false, Option.map_some, Option.map_none, Option.bind_some, Option.bind_none, le_size, lt_size, Nat.reduceLeDiff, Nat.reduceAdd, Nat.reduceSub, Nat.reducePow, Nat.zero_add, decide_eq_true_eq, Nat.reduceLT, gt_iff_lt, ge_iff_le, decide_true, decide_false, Bool.false_eq_true, Bool.or_true, Bool.true_or, Bool.or_false, Bool.false_or, Bool.false_and, Bool.and_false, or_true, true_or, and_true, true_and, or_false, false_or, and_false, false_and, and_self, not_false_eq_true, not_true_eq_false, kids, told, twL, ixW, atI_0, atI_1, eqW_str, always_ok k hsz]
theorem make_ok (m : Sto) : ∀ (k : Nat) (t : T), Wf t → dep t ≤ k → 2 * cnt t ≤ 16777216 → (Sv (k + 4)).f 17 [told t] m = .ok (tw t) m
  | 0, t, hw, hd, hz => make_step 0 m t hw hz (by
    intro s hs
    cases t <;> simp [dep] at hd
    cases hs)
  | k + 1, t, hw, hd, hz => make_step (k + 1) m t hw hz fun s hs => make_ok m k s (wf_mem (wf_kidsL hw) hs) (dep_kids hd hs) (by have := cnt_kid hs; omega)
end Pl

namespace Pl
open PySem PySem.Spec PyProof.Rows L2 Sm
/-- the source of draws stands at the places 0 and 1 of the store -/
def D (cs : List Int) (x : Int) (r : Sto) : Sto := .lst (cs.map .int) :: .lst [.ref 0, .int x] :: r
section
variable (cs : List Int) (x : Int) (r : Sto)
theorem D_get0 : (D cs x r)[(0 : Nat)]? = some (.lst (cs.map .int)) := rfl
theorem D_get1 : (D cs x r)[(1 : Nat)]? = some (.lst [.ref 0, .int x]) := rfl
theorem D_ix1 : ixW (.ref 1) (.int 0) (D cs x r) = some (.ref 0) := rfl
theorem D_ix2 : ixW (.ref 1) (.int 1) (D cs x r) = some (.int x) := rfl
theorem D_set0 (cs' : List Int) : (D cs x r).set 0 (.lst (cs'.map .int)) = D cs' x r := rfl
theorem D_set1 (y : Int) : (D cs x r).set 1 (.lst [.ref 0, .int y]) = D cs y r := rfl
theorem toDs_int : ∀ cs : List Int, toDs (cs.map .int) = some (cs.map .int)
  | [] => rfl
  | c :: cs => by simp [toDs, toD, toDs_int cs]
theorem lay_int : ∀ cs : List Int, PyData.canLayAll0 (cs.map PyData.int) = true
  | [] => rfl
  | c :: cs => by simp [PyData.canLayAll0, PyData.canLay0, lay_int cs]
theorem depth_int : ∀ cs : List Int, PyData.depthAll (cs.map PyData.int) ≤ 1
  | [] => by simp [PyData.depthAll]
  | c :: cs => by have := depth_int cs; simp [PyData.depthAll, PyData.depth]; omega
theorem D_ne : neW (.ref 0) (.lst []) (D cs x r) = some (.bl (decide (cs ≠ []))) := by
  have h := depth_int cs
  cases cs with
  | nil => simp [neW, eqB, deref, D, toW, toD, toDs, SeqAt.shaped, PyData.eqv, PyData.eqvAll, PyData.canLay0, PyData.canLayAll0, PyData.depth, PyData.depthAll]
  | cons c cs =>
    have e := lay_int (c :: cs)
    simp only [List.map_cons] at e h
    have h2 : 1 + PyData.depthAll (PyData.int c :: List.map PyData.int cs) ≤ 64 := by omega
    simp [neW, eqB, deref, D, toW, toD, toDs_int, toDs, SeqAt.shaped, PyData.eqv, PyData.eqvAll, PyData.canLay0, e, PyData.canLayAll0, PyData.depth, h2]
    exact ⟨by simp [PyData.canLayAll0, PyData.canLay0] at e; exact e, by omega, by simp [PyData.depthAll]⟩
end
theorem app_ne (c0 : List Int) (l : Int) : (c0 ++ [l] ≠ []) = True := by simp
theorem D_last (c0 : List Int) (l x : Int) (r : Sto) : ixW (.ref 0) (.int (-1)) (D (c0 ++ [l]) x r) = some (.int l) := by
  show atI ((c0 ++ [l]).map W.int) (-1) = _
  rw [List.map_append]
  exact atI_l _ _
theorem eqW_int (a b : Int) (m : Sto) : eqW (.int a) (.int b) m = some (.bl (decide (a = b))) := by
  simp [eqW, eqB, deref, toD, SeqAt.shaped, PyData.eqv, PyData.canLay0, PyData.depth]
  rfl
theorem pop_last (c0 : List Int) (l : Int) : popS ((c0 ++ [l]).map W.int) [] = some (.int l, c0.map W.int) := by
  simp [popS]
abbrev drT : Ft := tAn (tBl (op2 neW (op2 ixW (rVar 0) (eC (.int 0))) (eL (nLst aNil)))) (tBl (op2 eqW (op2 ixW (op2 ixW (rVar 0) (eC (.int 0))) (op1 negW (eC (.int 1)))) (eC (.int 0))))
abbrev drB : Fs := sExp (eMt popS (op2 ixW (rVar 0) (eC (.int 0))) aNil)
theorem ix21 : ixN 2 1 = some 1 := rfl
theorem ix21s : ixN (0 + 1 + 1) 1 = some 1 := rfl
theorem neg1 (m : Sto) : negW (.int 1) m = some (.int (-1)) := rfl
theorem dr_while (x : Int) (r : Sto) (v1 v2 : Sl) : ∀ (n : Nat) (cs : List Int), cs.length < n → ∃ cs', whW drT drB n [.val (.ref 1), v1, v2] (D cs x r) = .ok (.nx [.val (.ref 1), v1, v2]) (D cs' x r) ∧ cs'.length ≤ cs.length
  | 0, cs, h => by omega
  | n + 1, cs, h => by
    rcases List.eq_nil_or_concat cs with e | ⟨c0, l, e⟩
    · subst e
      refine ⟨[], ?_, Nat.le_refl _⟩
      simp (decide := true) only [runB, runI, bnd, lift, exS, sSeq, sSeqF, sNil, sSet, sSetN, sSetL, sIf, sRet, sRetN, sExp, sFor, sExt, sApp, sFrz, sPar, sPar3, sUnp, sSetIx, sBrk, sCnt, eVar, rVar, eC, op1, op2, eCall, eNew, aCons, aNil, aStar, eTup, eL, nLst, nRev, nLc, eBlt, eIf, eAnd, eOr, eNotV, tTru, tBl, tNt, tAn, tOrr, tYesM, truW, blW, eChain, iSeq, itW, iRng, bName, bTup, bAll, eMt, ePush, eJoin, jsW, e1M, e2M, sAug, sSup, sFldS, sTree, wipeS, lenW, tupleW, frzb, toW, clsO, eSl, oSome, oNone, Sm.ret, Sm.bad, List.map_cons, List.map_nil, List.length_cons, List.length_nil, List.cons_append, List.nil_append, List.append_nil, List.replicate_succ, List.replicate_zero, List.set_cons_succ, List.set_cons_zero, List.getElem?_cons_succ, List.getElem?_cons_zero, List.length_append, List.length_map, if_true, if_false, reduceIte, Bool.true_and, Bool.and_true, Bool.not_true, Bool.not_false, Option.map_some, Option.map_none, Option.bind_some, Option.bind_none, le_size, lt_size, Nat.reduceLeDiff, Nat.reduceAdd, Nat.reduceSub, Nat.reducePow, Nat.zero_add, decide_eq_true_eq, Nat.reduceLT, gt_iff_lt, ge_iff_le, decide_true, decide_false, Bool.false_eq_true, Bool.or_true, Bool.true_or, Bool.or_false, Bool.false_or, Bool.false_and, Bool.and_false, or_true, true_or, and_true, true_and, or_false, false_or, and_false, false_and, and_self, not_false_eq_true, not_true_eq_false, whW, drT, D_ix1, D_ne, List.cons_ne_nil, ne_eq, not_true_eq_false]
    · rw [List.concat_eq_append] at e
      subst e
      by_cases hl : l = 0
      · have hlen : c0.length < n := by simp at h; omega
        obtain ⟨cs', e, q⟩ := dr_while x r v1 v2 n c0 hlen
        refine ⟨cs', ?_, by simp; omega⟩
        simp (decide := true) only [runB, runI, bnd, lift, exS, sSeq, sSeqF, sNil, sSet, sSetN, sSetL, sIf, sRet, sRetN, sExp, sFor, sExt, sApp, sFrz, sPar, sPar3, sUnp, sSetIx, sBrk, sCnt, eVar, rVar, eC, op1, op2, eCall, eNew, aCons, aNil, aStar, eTup, eL, nLst, nRev, nLc, eBlt, eIf, eAnd, eOr, eNotV, tTru, tBl, tNt, tAn, tOrr, tYesM, truW, blW, eChain, iSeq, itW, iRng, bName, bTup, bAll, eMt, ePush, eJoin, jsW, e1M, e2M, sAug, sSup, sFldS, sTree, wipeS, lenW, tupleW, frzb, toW, clsO, eSl, oSome, oNone, Sm.ret, Sm.bad, List.map_cons, List.map_nil, List.length_cons, List.length_nil, List.cons_append, List.nil_append, List.append_nil, List.replicate_succ, List.replicate_zero, List.set_cons_succ, List.set_cons_zero, List.getElem?_cons_succ, List.getElem?_cons_zero, List.length_append, List.length_map, if_true, if_false, reduceIte, Bool.true_and, Bool.and_true, Bool.not_true, Bool.not_false, Option.map_some, Option.map_none, Option.bind_some, Option.bind_none, le_size, lt_size, Nat.reduceLeDiff, Nat.reduceAdd, Nat.reduceSub, Nat.reducePow, Nat.zero_add, decide_eq_true_eq, Nat.reduceLT, gt_iff_lt, ge_iff_le, decide_true, decide_false, Bool.false_eq_true, Bool.or_true, Bool.true_or, Bool.or_false, Bool.false_or, Bool.false_and, Bool.and_false, or_true, true_or, and_true, true_and, or_false, false_or, and_false, false_and, and_self, not_false_eq_true, not_true_eq_false, whW, drT, drB, D_ix1, D_ne, app_ne, neg1, D_last, eqW_int, hl, D_get0, pop_last, D_set0]
        exact e
      · refine ⟨c0 ++ [l], ?_, Nat.le_refl _⟩
        simp (decide := true) only [runB, runI, bnd, lift, exS, sSeq, sSeqF, sNil, sSet, sSetN, sSetL, sIf, sRet, sRetN, sExp, sFor, sExt, sApp, sFrz, sPar, sPar3, sUnp, sSetIx, sBrk, sCnt, eVar, rVar, eC, op1, op2, eCall, eNew, aCons, aNil, aStar, eTup, eL, nLst, nRev, nLc, eBlt, eIf, eAnd, eOr, eNotV, tTru, tBl, tNt, tAn, tOrr, tYesM, truW, blW, eChain, iSeq, itW, iRng, bName, bTup, bAll, eMt, ePush, eJoin, jsW, e1M, e2M, sAug, sSup, sFldS, sTree, wipeS, lenW, tupleW, frzb, toW, clsO, eSl, oSome, oNone, Sm.ret, Sm.bad, List.map_cons, List.map_nil, List.length_cons, List.length_nil, List.cons_append, List.nil_append, List.append_nil, List.replicate_succ, List.replicate_zero, List.set_cons_succ, List.set_cons_zero, List.getElem?_cons_succ, List.getElem?_cons_zero, List.length_append, List.length_map, if_true, if_false, reduceIte, Bool.true_and, Bool.and_true, Bool.not_true, Bool.not_false, Option.map_some, Option.map_none, Option.bind_some, Option.bind_none, le_size, lt_size, Nat.reduceLeDiff, Nat.reduceAdd, Nat.reduceSub, Nat.reducePow, Nat.zero_add, decide_eq_true_eq, Nat.reduceLT, gt_iff_lt, ge_iff_le, decide_true, decide_false, Bool.false_eq_true, Bool.or_true, Bool.true_or, Bool.or_false, Bool.false_or, Bool.false_and, Bool.and_false, or_true, true_or, and_true, true_and, or_false, false_or, and_false, false_and, and_self, not_false_eq_true, not_true_eq_false, whW, drT, drB, D_ix1, D_ne, app_ne, neg1, D_last, eqW_int, hl]
def DD (r : Sto) (m : Sto) : Prop := ∃ cs x, m = D cs x r ∧ cs.length ≤ 63
theorem draw_ok (k : Nat) {r : Sto} {m : Sto} (h : DD r m) {n : Int} (h1 : 0 < n) (h2 : n < 1073741824) : ∃ d m', (Sv (k + 1)).f 8 [.ref 1, .int n] m = .ok (.int d) m' ∧ 0 ≤ d ∧ d < n ∧ DD r m' := by
  obtain ⟨cs, x, rfl, hc⟩ := h
  rw [Sf__law_draw]
  obtain ⟨cs', e, q⟩ := dr_while x r (.val (.int n)) .un 1000 cs (by omega)
  simp only [drT, drB] at e
  rcases List.eq_nil_or_concat cs' with e1 | ⟨c0, l, e1⟩
  · subst e1
    refine ⟨(x * 48271 + 7) % 2147483647 / 8 % n, D [] ((x * 48271 + 7) % 2147483647) r, ?_, Int.emod_nonneg _ (by omega), Int.emod_lt_of_pos _ h1, [], _, rfl, by simp⟩
    simp (decide := true) only [runB, runI, bnd, lift, exS, sSeq, sSeqF, sNil, sSet, sSetN, sSetL, sIf, sRet, sRetN, sExp, sFor, sExt, sApp, sFrz, sPar, sPar3, sUnp, sSetIx, sBrk, sCnt, eVar, rVar, eC, op1, op2, eCall, eNew, aCons, aNil, aStar, eTup, eL, nLst, nRev, nLc, eBlt, eIf, eAnd, eOr, eNotV, tTru, tBl, tNt, tAn, tOrr, tYesM, truW, blW, eChain, iSeq, itW, iRng, bName, bTup, bAll, eMt, ePush, eJoin, jsW, e1M, e2M, sAug, sSup, sFldS, sTree, wipeS, lenW, tupleW, frzb, toW, clsO, eSl, oSome, oNone, Sm.ret, Sm.bad, List.map_cons, List.map_nil, List.length_cons, List.length_nil, List.cons_append, List.nil_append, List.append_nil, List.replicate_succ, List.replicate_zero, List.set_cons_succ, List.set_cons_zero, List.getElem?_cons_succ, List.getElem?_cons_zero, List.length_append, List.length_map, if_true, if_false, reduceIte, Bool.true_and, Bool.and_true, Bool.not_true, Bool.not_false, Option.map_some, Option.map_none, Option.bind_some, Option.bind_none, le_size, lt_size, Nat.reduceLeDiff, Nat.reduceAdd, Nat.reduceSub, Nat.reducePow, Nat.zero_add, decide_eq_true_eq, Nat.reduceLT, gt_iff_lt, ge_iff_le, decide_true, decide_false, Bool.false_eq_true, Bool.or_true, Bool.true_or, Bool.or_false, Bool.false_or, Bool.false_and, Bool.and_false, or_true, true_or, and_true, true_and, or_false, false_or, and_false, false_and, and_self, not_false_eq_true, not_true_eq_false, b__law_draw, N__law_draw, e, D_ix1, D_ne, D_ix2, ne_eq, not_true_eq_false, mulW, addW, intW, modW, D_get1, D_set1, fdivW, h1, ix21, ix21s]
  · rw [List.concat_eq_append] at e1
    subst e1
    refine ⟨l % n, D (c0 ++ [l / n]) x r, ?_, Int.emod_nonneg _ (by omega), Int.emod_lt_of_pos _ h1, _, _, rfl, by simp at q ⊢; omega⟩
    have hl : (c0.map W.int).length < 16777216 := by simp at q ⊢; omega
    simp only [List.length_map] at hl
    simp (decide := true) only [runB, runI, bnd, lift, exS, sSeq, sSeqF, sNil, sSet, sSetN, sSetL, sIf, sRet, sRetN, sExp, sFor, sExt, sApp, sFrz, sPar, sPar3, sUnp, sSetIx, sBrk, sCnt, eVar, rVar, eC, op1, op2, eCall, eNew, aCons, aNil, aStar, eTup, eL, nLst, nRev, nLc, eBlt, eIf, eAnd, eOr, eNotV, tTru, tBl, tNt, tAn, tOrr, tYesM, truW, blW, eChain, iSeq, itW, iRng, bName, bTup, bAll, eMt, ePush, eJoin, jsW, e1M, e2M, sAug, sSup, sFldS, sTree, wipeS, lenW, tupleW, frzb, toW, clsO, eSl, oSome, oNone, Sm.ret, Sm.bad, List.map_cons, List.map_nil, List.length_cons, List.length_nil, List.cons_append, List.nil_append, List.append_nil, List.replicate_succ, List.replicate_zero, List.set_cons_succ, List.set_cons_zero, List.getElem?_cons_succ, List.getElem?_cons_zero, List.length_append, List.length_map, if_true, if_false, reduceIte, Bool.true_and, Bool.and_true, Bool.not_true, Bool.not_false, Option.map_some, Option.map_none, Option.bind_some, Option.bind_none, le_size, lt_size, Nat.reduceLeDiff, Nat.reduceAdd, Nat.reduceSub, Nat.reducePow, Nat.zero_add, decide_eq_true_eq, Nat.reduceLT, gt_iff_lt, ge_iff_le, decide_true, decide_false, Bool.false_eq_true, Bool.or_true, Bool.true_or, Bool.or_false, Bool.false_or, Bool.false_and, Bool.and_false, or_true, true_or, and_true, true_and, or_false, false_or, and_false, false_and, and_self, not_false_eq_true, not_true_eq_false, b__law_draw, N__law_draw, e, D_ix1, D_ne, app_ne, D_get0, pop_last, D_set0, appS, hl, fdivW, h1, h2, intW, modW]
    simp [D]
/-- Γ draws -/
def Draw (Γ : Gam) : Prop := ∀ (r m : Sto), DD r m → ∀ (n : Int), 0 < n → n < 1073741824 → ∃ d m', Γ.f 8 [.ref 1, .int n] m = .ok (.int d) m' ∧ 0 ≤ d ∧ d < n ∧ DD r m'
theorem draw_K {K : Nat} (hK : 1 ≤ K) : Draw (Sv K) := by
  obtain ⟨k, rfl⟩ : ∃ k, K = k + 1 := ⟨K - 1, by omega⟩
  exact fun r m h n => draw_ok k h (n := n)
end Pl

namespace Pl
open PySem PySem.Spec PyProof.Rows L2 Sm
theorem atI_in {α : Type} (l : List α) {d : Int} (h0 : 0 ≤ d) (h1 : d < l.length) : ∃ a, a ∈ l ∧ atI l d = some a := by
  obtain ⟨n, rfl⟩ := Int.eq_ofNat_of_zero_le h0
  have hn : n < l.length := by omega
  exact ⟨l[n], List.getElem_mem hn, atI_nat (by simp [hn])⟩
def Pick (Γ : Gam) : Prop := ∀ (r m : Sto), DD r m → ∀ (ws : List W), 0 < ws.length → ws.length < 1000000 → ∃ w m', Γ.f 9 [.ref 1, .lst ws] m = .ok w m' ∧ w ∈ ws ∧ DD r m'
theorem pick_K {K : Nat} (hK : 2 ≤ K) : Pick (Sv K) := by
  obtain ⟨k, rfl⟩ : ∃ k, K = k + 1 := ⟨K - 1, by omega⟩
  intro r m h ws h1 h2
  have HD := draw_K (K := k) (by omega)
  rw [Sf__law_pick]
  generalize Sv k = Γ at HD ⊢
  obtain ⟨d, m', e, d0, d1, q⟩ := HD _ _ h ((ws.length : Int)) (by omega) (by omega)
  obtain ⟨a, ha, ea⟩ := atI_in ws d0 d1
  refine ⟨a, m', ?_, ha, q⟩
  simp (decide := true) only [runB, runI, bnd, lift, exS, sSeq, sSeqF, sNil, sSet, sSetN, sSetL, sIf, sRet, sRetN, sExp, sFor, sExt, sApp, sFrz, sPar, sPar3, sUnp, sSetIx, sBrk, sCnt, eVar, rVar, eC, op1, op2, eCall, eNew, aCons, aNil, aStar, eTup, eL, nLst, nRev, nLc, eBlt, eIf, eAnd, eOr, eNotV, tTru, tBl, tNt, tAn, tOrr, tYesM, truW, blW, eChain, iSeq, itW, iRng, bName, bTup, bAll, eMt, ePush, eJoin, jsW, e1M, e2M, sAug, sSup, sFldS, sTree, wipeS, lenW, tupleW, frzb, toW, clsO, eSl, oSome, oNone, Sm.ret, Sm.bad, List.map_cons, List.map_nil, List.length_cons, List.length_nil, List.cons_append, List.nil_append, List.append_nil, List.replicate_succ, List.replicate_zero, List.set_cons_succ, List.set_cons_zero, List.getElem?_cons_succ, List.getElem?_cons_zero, List.length_append, List.length_map, if_true, if_false, reduceIte, Bool.true_and, Bool.and_true, Bool.not_true, Bool.not_false, Option.map_some, Option.map_none, Option.bind_some, Option.bind_none, le_size, lt_size, Nat.reduceLeDiff, Nat.reduceAdd, Nat.reduceSub, Nat.reducePow, Nat.zero_add, decide_eq_true_eq, Nat.reduceLT, gt_iff_lt, ge_iff_le, decide_true, decide_false, Bool.false_eq_true, Bool.or_true, Bool.true_or, Bool.or_false, Bool.false_or, Bool.false_and, Bool.and_false, or_true, true_or, and_true, true_and, or_false, false_or, and_false, false_and, and_self, not_false_eq_true, not_true_eq_false, b__law_pick, N__law_pick, e, ixW, ea]
theorem names_ok : ∀ x ∈ ([("a" : Str), "b", "ab", "abc", "abca", "end", "row", "do", "ask", "if", "not", "well", "ill", "kept", "zzzz", "q"] : List Str), (1 ≤ x.cps.toList.length ∧ x.cps.toList.length ≤ 4) ∧ ∀ c ∈ x.cps.toList, 97 ≤ c ∧ c ≤ 122 := by decide +kernel
theorem nm_mk {x : Str} (h : (1 ≤ x.cps.toList.length ∧ x.cps.toList.length ≤ 4) ∧ ∀ c ∈ x.cps.toList, 97 ≤ c ∧ c ≤ 122) : Nm x := ⟨by have := h.1.1; simpa [Str.length] using this, by have := h.1.2; simpa [Str.length] using this, h.2⟩
/-- a drawn letter -/
theorem let_ok : ∀ i : Fin 26, ∃ c, 97 ≤ c ∧ c ≤ 122 ∧ LET.cps.toList[i.val]? = some c := fun i => ⟨97 + i.val, by omega, by omega, by revert i; decide +kernel⟩
theorem char_ok {d : Int} (h0 : 0 ≤ d) (h1 : d < 26) : ∃ c, 97 ≤ c ∧ c ≤ 122 ∧ charW LET d = some (.str ⟨#[c]⟩) := by
  obtain ⟨n, rfl⟩ := Int.eq_ofNat_of_zero_le h0
  obtain ⟨c, a, b, e⟩ := let_ok ⟨n, by omega⟩
  refine ⟨c, a, b, ?_⟩
  unfold charW
  rw [if_pos (by decide +kernel), atI_nat e]
  rfl
theorem letters_ok {Γ : Gam} (HD : Draw Γ) {r : Sto} (v0 v1 v2 v3 : Sl) (e0 : v0 = .val (.ref 1)) (e2 : v2 = .val (.str LET)) : ∀ (xs : List W) (m : Sto), DD r m → ∃ (cs : List Nat) (m' : Sto), (∀ c ∈ cs, 97 ≤ c ∧ c ≤ 122) ∧ cs.length = xs.length ∧ DD r m' ∧
    lcM (bName 3) tYesM (op2 ixW (rVar 2) (eCall 2 (Γ.f 8) [] (aCons (eVar 0) (aCons (eC (.int 26)) aNil)))) [v0, v1, v2, v3] xs m = .ok (cs.map fun c => .str ⟨#[c]⟩) m'
  | [], m, h => ⟨[], m, by simp, rfl, h, rfl⟩
  | x :: xs, m, h => by
    subst e0 e2
    obtain ⟨d, m1, e, d0, d1, h1⟩ := HD _ _ h (26) (by omega) (by omega)
    obtain ⟨c, ca, cb, ec⟩ := char_ok d0 d1
    obtain ⟨cs, m2, a, b, h2, e2⟩ := letters_ok HD (.val (.ref 1)) v1 (.val (.str LET)) v3 rfl rfl xs m1 h1
    refine ⟨c :: cs, m2, ?_, by simp [b], h2, ?_⟩
    · intro z hz
      rcases List.mem_cons.mp hz with q | q
      · subst q; exact ⟨ca, cb⟩
      · exact a z q
    · simp (decide := true) only [runB, runI, bnd, lift, exS, sSeq, sSeqF, sNil, sSet, sSetN, sSetL, sIf, sRet, sRetN, sExp, sFor, sExt, sApp, sFrz, sPar, sPar3, sUnp, sSetIx, sBrk, sCnt, eVar, rVar, eC, op1, op2, eCall, eNew, aCons, aNil, aStar, eTup, eL, nLst, nRev, nLc, eBlt, eIf, eAnd, eOr, eNotV, tTru, tBl, tNt, tAn, tOrr, tYesM, truW, blW, eChain, iSeq, itW, iRng, bName, bTup, bAll, eMt, ePush, eJoin, jsW, e1M, e2M, sAug, sSup, sFldS, sTree, wipeS, lenW, tupleW, frzb, toW, clsO, eSl, oSome, oNone, Sm.ret, Sm.bad, List.map_cons, List.map_nil, List.length_cons, List.length_nil, List.cons_append, List.nil_append, List.append_nil, List.replicate_succ, List.replicate_zero, List.set_cons_succ, List.set_cons_zero, List.getElem?_cons_succ, List.getElem?_cons_zero, List.length_append, List.length_map, if_true, if_false, reduceIte, Bool.true_and, Bool.and_true, Bool.not_true, Bool.not_false, Option.map_some, Option.map_none, Option.bind_some, Option.bind_none, le_size, lt_size, Nat.reduceLeDiff, Nat.reduceAdd, Nat.reduceSub, Nat.reducePow, Nat.zero_add, decide_eq_true_eq, Nat.reduceLT, gt_iff_lt, ge_iff_le, decide_true, decide_false, Bool.false_eq_true, Bool.or_true, Bool.true_or, Bool.or_false, Bool.false_or, Bool.false_and, Bool.and_false, or_true, true_or, and_true, true_and, or_false, false_or, and_false, false_and, and_self, not_false_eq_true, not_true_eq_false, lcM, e, ixW, ec]
      rw [e2]
theorem strs_map : ∀ cs : List Nat, strsOf (cs.map fun c => W.str ⟨#[c]⟩) = some (cs.map fun c => (⟨#[c]⟩ : Str))
  | [] => rfl
  | c :: cs => by simp [strsOf, strs_map cs]
theorem join_empty (cs : List Nat) : Txt.join (Str.ofString "") (cs.map fun c => (⟨#[c]⟩ : Str)) = ⟨cs.toArray⟩ := by
  have h := join_nil_signs ⟨cs.toArray⟩
  have e : signs ⟨cs.toArray⟩ = cs.map fun c => (⟨#[c]⟩ : Str) := by simp [signs]
  rw [e] at h
  have e2 : Str.ofString "" = (⟨#[]⟩ : Str) := by decide +kernel
  rw [e2]
  exact (StrLaws.glued_eq_join _ _).trans h
theorem sum_ones : ∀ cs : List Nat, ((cs.map fun c => (⟨#[c]⟩ : Str)).map (·.length)).sum = cs.length
  | [] => rfl
  | c :: cs => by
    have := sum_ones cs
    simp only [List.map_cons, List.sum_cons, this, List.length_cons]
    show 1 + _ = _
    omega
theorem add_int (i j : Int) (m : Sto) : addW (.int i) (.int j) m = some (.int (i + j)) := rfl
def Name (Γ : Gam) : Prop := ∀ (r m : Sto), DD r m → ∃ x m', Γ.f 10 [.ref 1] m = .ok (.str x) m' ∧ Nm x ∧ DD r m'
theorem name_K {K : Nat} (hK : 3 ≤ K) : Name (Sv K) := by
  obtain ⟨k, rfl⟩ : ∃ k, K = k + 1 := ⟨K - 1, by omega⟩
  intro r m h
  have HD := draw_K (K := k) (by omega)
  have HP := pick_K (K := k) (by omega)
  rw [Sf__law_name]
  generalize Sv k = Γ at HD HP ⊢
  obtain ⟨d, m1, e1, d0, d1, h1⟩ := HD _ _ h (2) (by omega) (by omega)
  by_cases hd : d = 0
  · obtain ⟨w, m2, e2, hw, h2⟩ := HP _ _ h1 (([("a" : Str), "b", "ab", "abc", "abca", "end", "row", "do", "ask", "if", "not", "well", "ill", "kept", "zzzz", "q"] : List Str).map .str) (by simp) (by simp)
    obtain ⟨x, hx, rfl⟩ := List.mem_map.mp hw
    refine ⟨x, m2, ?_, nm_mk (names_ok x hx), h2⟩
    simp only [List.map_cons, List.map_nil] at e2
    simp (decide := true) only [runB, runI, bnd, lift, exS, sSeq, sSeqF, sNil, sSet, sSetN, sSetL, sIf, sRet, sRetN, sExp, sFor, sExt, sApp, sFrz, sPar, sPar3, sUnp, sSetIx, sBrk, sCnt, eVar, rVar, eC, op1, op2, eCall, eNew, aCons, aNil, aStar, eTup, eL, nLst, nRev, nLc, eBlt, eIf, eAnd, eOr, eNotV, tTru, tBl, tNt, tAn, tOrr, tYesM, truW, blW, eChain, iSeq, itW, iRng, bName, bTup, bAll, eMt, ePush, eJoin, jsW, e1M, e2M, sAug, sSup, sFldS, sTree, wipeS, lenW, tupleW, frzb, toW, clsO, eSl, oSome, oNone, Sm.ret, Sm.bad, List.map_cons, List.map_nil, List.length_cons, List.length_nil, List.cons_append, List.nil_append, List.append_nil, List.replicate_succ, List.replicate_zero, List.set_cons_succ, List.set_cons_zero, List.getElem?_cons_succ, List.getElem?_cons_zero, List.length_append, List.length_map, if_true, if_false, reduceIte, Bool.true_and, Bool.and_true, Bool.not_true, Bool.not_false, Option.map_some, Option.map_none, Option.bind_some, Option.bind_none, le_size, lt_size, Nat.reduceLeDiff, Nat.reduceAdd, Nat.reduceSub, Nat.reducePow, Nat.zero_add, decide_eq_true_eq, Nat.reduceLT, gt_iff_lt, ge_iff_le, decide_true, decide_false, Bool.false_eq_true, Bool.or_true, Bool.true_or, Bool.or_false, Bool.false_or, Bool.false_and, Bool.and_false, or_true, true_or, and_true, true_and, or_false, false_or, and_false, false_and, and_self, not_false_eq_true, not_true_eq_false, b__law_name, N__law_name, e1, eqW_int, hd, addW, e2]
  · obtain ⟨d2, m2, e2, d20, d21, h2⟩ := HD _ _ h1 4 (by omega) (by omega)
    have er : rng1 [.int (1 + d2)] = some ((List.range (1 + d2).toNat).map fun i : Nat => .int i) := by
      simp only [rng1]
      rw [if_pos (by omega)]
    obtain ⟨cs, m3, hc, hl, h3, e3⟩ := letters_ok HD (.val (.ref 1)) (.val (.lst (([("a" : Str), "b", "ab", "abc", "abca", "end", "row", "do", "ask", "if", "not", "well", "ill"] : List Str).map .str))) (.val (.str LET)) .un rfl rfl ((List.range (1 + d2).toNat).map fun i : Nat => .int i) m2 h2
    have hn : cs.length = (1 + d2).toNat := by rw [hl]; simp
    refine ⟨⟨cs.toArray⟩, m3, ?_, nm_mk ⟨⟨by simp; omega, by simp; omega⟩, by simpa using hc⟩, h3⟩
    simp only [List.map_cons, List.map_nil] at e3
    have hz : cs.length ≤ 16777216 := by omega
    have hj : joinW (Str.ofString "") (.lst (cs.map fun c => .str ⟨#[c]⟩)) m3 = some (.str ⟨cs.toArray⟩) := by
      simp only [joinW, seqW, strs_map, sum_ones, join_empty]
      rw [if_pos]
      have : (Str.ofString "").length = 0 := by decide +kernel
      rw [this]
      omega
    have hb : eqW (.int d) (.int 0) m1 = some (.bl false) := by rw [eqW_int, decide_eq_false hd]
    simp (decide := true) only [runB, runI, bnd, lift, exS, sSeq, sSeqF, sNil, sSet, sSetN, sSetL, sIf, sRet, sRetN, sExp, sFor, sExt, sApp, sFrz, sPar, sPar3, sUnp, sSetIx, sBrk, sCnt, eVar, rVar, eC, op1, op2, eCall, eNew, aCons, aNil, aStar, eTup, eL, nLst, nRev, nLc, eBlt, eIf, eAnd, eOr, eNotV, tTru, tBl, tNt, tAn, tOrr, tYesM, truW, blW, eChain, iSeq, itW, iRng, bName, bTup, bAll, eMt, ePush, eJoin, jsW, e1M, e2M, sAug, sSup, sFldS, sTree, wipeS, lenW, tupleW, frzb, toW, clsO, eSl, oSome, oNone, Sm.ret, Sm.bad, List.map_cons, List.map_nil, List.length_cons, List.length_nil, List.cons_append, List.nil_append, List.append_nil, List.replicate_succ, List.replicate_zero, List.set_cons_succ, List.set_cons_zero, List.getElem?_cons_succ, List.getElem?_cons_zero, List.length_append, List.length_map, if_true, if_false, reduceIte, Bool.true_and, Bool.and_true, Bool.not_true, Bool.not_false, Option.map_some, Option.map_none, Option.bind_some, Option.bind_none, le_size, lt_size, Nat.reduceLeDiff, Nat.reduceAdd, Nat.reduceSub, Nat.reducePow, Nat.zero_add, decide_eq_true_eq, Nat.reduceLT, gt_iff_lt, ge_iff_le, decide_true, decide_false, Bool.false_eq_true, Bool.or_true, Bool.true_or, Bool.or_false, Bool.false_or, Bool.false_and, Bool.and_false, or_true, true_or, and_true, true_and, or_false, false_or, and_false, false_and, and_self, not_false_eq_true, not_true_eq_false, b__law_name, N__law_name, e1, hb, add_int, e2, er, e3, hz, hj]
end Pl

namespace Pl
open PySem PySem.Spec PyProof.Rows L2 Sm
theorem DD_get {r m : Sto} {i j : Nat} {o : MO} (h : DD r m) (hj : j = i + 2) (e : r[i]? = some o) : m[j]? = some o := by
  obtain ⟨cs, x, rfl, _⟩ := h
  subst hj
  exact e
theorem DD_set {r m : Sto} {i j : Nat} (h : DD r m) (hj : j = i + 2) (o : MO) : DD (r.set i o) (m.set j o) := by
  obtain ⟨cs, x, rfl, hc⟩ := h
  subst hj
  exact ⟨cs, x, rfl, hc⟩
theorem DD_push {r m : Sto} (h : DD r m) (o : MO) : DD (r ++ [o]) (m ++ [o]) ∧ m.length = r.length + 2 := by
  obtain ⟨cs, x, rfl, hc⟩ := h
  exact ⟨⟨cs, x, rfl, hc⟩, by simp [D]⟩
theorem ix_room {r m : Sto} {i j : Nat} {room : Int} (h : DD r m) (hj : j = i + 2) (e : r[i]? = some (.lst [.int room])) : ixW (.ref j) (.int 0) m = some (.int room) := by
  simp only [ixW, DD_get h hj e, atI_0]
theorem set_set_get {r : Sto} {i : Nat} {o o' : MO} (e : r[i]? = some o) : (r.set i o')[i]? = some o' := by
  have hl : i < r.length := (List.getElem?_eq_some_iff.mp e).1
  simp [hl]
def Gr (Γ : Gam) (n : Nat) : Prop := ∀ (d : Int) (r m : Sto) (i j : Nat) (room : Int), j = i + 2 → d ≤ n → DD r m → r[i]? = some (.lst [.int room]) → 1 ≤ room → room ≤ 900 →
  ∃ t m' room', Γ.f 12 [.ref 1, .ref j, .int d] m = .ok (told t) m' ∧ DD (r.set i (.lst [.int room'])) m' ∧ Wf t ∧ dep t ≤ n ∧ (cnt t : Int) + room' = room ∧ 0 ≤ room'
def Kd (Γ : Gam) (n : Nat) : Prop := ∀ (d : Int) (r m : Sto) (i j : Nat) (room l : Int), j = i + 2 → d ≤ n + 1 → DD r m → r[i]? = some (.lst [.int room]) → 1 ≤ room → room ≤ 900 → (l = 0 ∨ l = 1) →
  ∃ ks m' room', Γ.f 11 [.ref 1, .ref j, .int d, .int l] m = .ok (.tup (toldL ks)) m' ∧ DD (r.set i (.lst [.int room'])) m' ∧ WfL ks ∧ depL ks ≤ n ∧ (cntL ks : Int) + room' = room ∧ 0 ≤ room' ∧ l ≤ ks.length
theorem sub_int (i j : Int) (m : Sto) : subW (.int i) (.int j) m = some (.int (i - j)) := rfl
theorem gt_int (i j : Int) (m : Sto) : cmpI (fun i j => decide (j < i)) (.int i) (.int j) m = some (.bl (decide (j < i))) := rfl
theorem lt_int (i j : Int) (m : Sto) : cmpI (fun i j => decide (i < j)) (.int i) (.int j) m = some (.bl (decide (i < j))) := rfl
theorem toldL_len : ∀ ks : List T, (toldL ks).length = ks.length
  | [] => rfl
  | t :: r => by simp [toldL, toldL_len r]
theorem toldL_app : ∀ (a b : List T), toldL (a ++ b) = toldL a ++ toldL b
  | [], b => rfl
  | t :: r, b => by simp [toldL, toldL_app r b]
abbrev kdT (Γ : Gam) : Ft := tAn (tBl (op2 (cmpI fun i j => decide (j < i)) (op2 ixW (rVar 1) (eC (.int 0))) (eC (.int 0)))) (tBl (op2 (cmpI fun i j => decide (j < i)) (eCall 2 (Γ.f 8) [] (aCons (eVar 0) (aCons (eC (.int 3)) aNil))) (eC (.int 0))))
abbrev kdB (Γ : Gam) : Fs := sApp 4 (eCall 3 (Γ.f 12) [] (aCons (eVar 0) (aCons (eVar 1) (aCons (op2 subW (rVar 2) (eC (.int 1))) aNil))))
theorem kids_while {Γ : Gam} (HD : Draw Γ) {n : Nat} (HG : Gr Γ n) {d : Int} (hd : d ≤ n + 1) {i j : Nat} (hj : j = i + 2) (v3 v5 : Sl) : ∀ (fuel : Nat) (acc : List T) (r m : Sto) (room : Int), DD r m → r[i]? = some (.lst [.int room]) → 0 ≤ room → room < fuel → acc.length + room ≤ 5000 → room ≤ 900 →
    ∃ ks m' room', whW (kdT Γ) (kdB Γ) fuel [.val (.ref 1), .val (.ref j), .val (.int d), v3, .own (.lst (toldL acc)), v5] m = .ok (.nx [.val (.ref 1), .val (.ref j), .val (.int d), v3, .own (.lst (toldL (acc ++ ks))), v5]) m' ∧ DD (r.set i (.lst [.int room'])) m' ∧ WfL ks ∧ depL ks ≤ n ∧ (cntL ks : Int) + room' = room ∧ 0 ≤ room'
  | 0, acc, r, m, room, h, e, h0, hf, _, _ => by omega
  | fuel + 1, acc, r, m, room, h, e, h0, hf, ha, hr => by
    have hs : r.set i (.lst [.int room]) = r := by
      obtain ⟨hl, e'⟩ := List.getElem?_eq_some_iff.mp e
      rw [← e']
      simp
    by_cases h1 : 0 < room
    · obtain ⟨q, m1, e1, q0, q1, h1'⟩ := HD _ _ h 3 (by omega) (by omega)
      by_cases hq : 0 < q
      · obtain ⟨t, m2, room2, e2, h2, w2, d2, c2, z2⟩ := HG (d - 1) r m1 i j room hj (by omega) h1' e (by omega) hr
        have hc : 1 ≤ cnt t := by cases t <;> simp [cnt]
        obtain ⟨ks, m3, room3, e3, h3, w3, d3, c3, z3⟩ := kids_while HD HG hd hj v3 v5 fuel (acc ++ [t]) (r.set i (.lst [.int room2])) m2 room2 h2 (set_set_get e) z2 (by omega) (by simp; omega) (by omega)
        refine ⟨t :: ks, m3, room3, ?_, by simpa using h3, ⟨w2, w3⟩, by simp [depL]; omega, by simp [cntL]; omega, z3⟩
        have hlen : acc.length < 16777216 := by omega
        simp only [kdT, kdB] at e3 ⊢
        simp (decide := true) only [runB, runI, bnd, lift, exS, sSeq, sSeqF, sNil, sSet, sSetN, sSetL, sIf, sRet, sRetN, sExp, sFor, sExt, sApp, sFrz, sPar, sPar3, sUnp, sSetIx, sBrk, sCnt, eVar, rVar, eC, op1, op2, eCall, eNew, aCons, aNil, aStar, eTup, eL, nLst, nRev, nLc, eBlt, eIf, eAnd, eOr, eNotV, tTru, tBl, tNt, tAn, tOrr, tYesM, truW, blW, eChain, iSeq, itW, iRng, bName, bTup, bAll, eMt, ePush, eJoin, jsW, e1M, e2M, sAug, sSup, sFldS, sTree, wipeS, lenW, tupleW, frzb, toW, clsO, eSl, oSome, oNone, Sm.ret, Sm.bad, List.map_cons, List.map_nil, List.length_cons, List.length_nil, List.cons_append, List.nil_append, List.append_nil, List.replicate_succ, List.replicate_zero, List.set_cons_succ, List.set_cons_zero, List.getElem?_cons_succ, List.getElem?_cons_zero, List.length_append, List.length_map, if_true, if_false, reduceIte, Bool.true_and, Bool.and_true, Bool.not_true, Bool.not_false, Option.map_some, Option.map_none, Option.bind_some, Option.bind_none, le_size, lt_size, Nat.reduceLeDiff, Nat.reduceAdd, Nat.reduceSub, Nat.reducePow, Nat.zero_add, decide_eq_true_eq, Nat.reduceLT, gt_iff_lt, ge_iff_le, decide_true, decide_false, Bool.false_eq_true, Bool.or_true, Bool.true_or, Bool.or_false, Bool.false_or, Bool.false_and, Bool.and_false, or_true, true_or, and_true, true_and, or_false, false_or, and_false, false_and, and_self, not_false_eq_true, not_true_eq_false, whW, ix_room h hj e, gt_int, h1, e1, hq, sub_int, e2, toldL_len, hlen]
        rw [show acc ++ t :: ks = acc ++ [t] ++ ks by simp, ← e3, toldL_app]
        rfl
      · refine ⟨[], m1, room, ?_, by rw [hs]; exact h1', trivial, by simp [depL], by simp [cntL], h0⟩
        simp (decide := true) only [runB, runI, bnd, lift, exS, sSeq, sSeqF, sNil, sSet, sSetN, sSetL, sIf, sRet, sRetN, sExp, sFor, sExt, sApp, sFrz, sPar, sPar3, sUnp, sSetIx, sBrk, sCnt, eVar, rVar, eC, op1, op2, eCall, eNew, aCons, aNil, aStar, eTup, eL, nLst, nRev, nLc, eBlt, eIf, eAnd, eOr, eNotV, tTru, tBl, tNt, tAn, tOrr, tYesM, truW, blW, eChain, iSeq, itW, iRng, bName, bTup, bAll, eMt, ePush, eJoin, jsW, e1M, e2M, sAug, sSup, sFldS, sTree, wipeS, lenW, tupleW, frzb, toW, clsO, eSl, oSome, oNone, Sm.ret, Sm.bad, List.map_cons, List.map_nil, List.length_cons, List.length_nil, List.cons_append, List.nil_append, List.append_nil, List.replicate_succ, List.replicate_zero, List.set_cons_succ, List.set_cons_zero, List.getElem?_cons_succ, List.getElem?_cons_zero, List.length_append, List.length_map, if_true, if_false, reduceIte, Bool.true_and, Bool.and_true, Bool.not_true, Bool.not_false, Option.map_some, Option.map_none, Option.bind_some, Option.bind_none, le_size, lt_size, Nat.reduceLeDiff, Nat.reduceAdd, Nat.reduceSub, Nat.reducePow, Nat.zero_add, decide_eq_true_eq, Nat.reduceLT, gt_iff_lt, ge_iff_le, decide_true, decide_false, Bool.false_eq_true, Bool.or_true, Bool.true_or, Bool.or_false, Bool.false_or, Bool.false_and, Bool.and_false, or_true, true_or, and_true, true_and, or_false, false_or, and_false, false_and, and_self, not_false_eq_true, not_true_eq_false, whW, kdT, ix_room h hj e, gt_int, h1, e1, hq]
    · refine ⟨[], m, room, ?_, by rw [hs]; exact h, trivial, by simp [depL], by simp [cntL], h0⟩
      simp (decide := true) only [runB, runI, bnd, lift, exS, sSeq, sSeqF, sNil, sSet, sSetN, sSetL, sIf, sRet, sRetN, sExp, sFor, sExt, sApp, sFrz, sPar, sPar3, sUnp, sSetIx, sBrk, sCnt, eVar, rVar, eC, op1, op2, eCall, eNew, aCons, aNil, aStar, eTup, eL, nLst, nRev, nLc, eBlt, eIf, eAnd, eOr, eNotV, tTru, tBl, tNt, tAn, tOrr, tYesM, truW, blW, eChain, iSeq, itW, iRng, bName, bTup, bAll, eMt, ePush, eJoin, jsW, e1M, e2M, sAug, sSup, sFldS, sTree, wipeS, lenW, tupleW, frzb, toW, clsO, eSl, oSome, oNone, Sm.ret, Sm.bad, List.map_cons, List.map_nil, List.length_cons, List.length_nil, List.cons_append, List.nil_append, List.append_nil, List.replicate_succ, List.replicate_zero, List.set_cons_succ, List.set_cons_zero, List.getElem?_cons_succ, List.getElem?_cons_zero, List.length_append, List.length_map, if_true, if_false, reduceIte, Bool.true_and, Bool.and_true, Bool.not_true, Bool.not_false, Option.map_some, Option.map_none, Option.bind_some, Option.bind_none, le_size, lt_size, Nat.reduceLeDiff, Nat.reduceAdd, Nat.reduceSub, Nat.reducePow, Nat.zero_add, decide_eq_true_eq, Nat.reduceLT, gt_iff_lt, ge_iff_le, decide_true, decide_false, Bool.false_eq_true, Bool.or_true, Bool.true_or, Bool.or_false, Bool.false_or, Bool.false_and, Bool.and_false, or_true, true_or, and_true, true_and, or_false, false_or, and_false, false_and, and_self, not_false_eq_true, not_true_eq_false, whW, kdT, ix_room h hj e, gt_int, h1]
theorem kids_of {Γ Γ' : Gam} (HD : Draw Γ) {n : Nat} (HG : Gr Γ n) (hΓ : Γ'.f 11 = runB N__law_kids.length (b__law_kids Γ)) : Kd Γ' n := by
  intro d r m i j room l hj hd h e h1 hr hl
  rw [hΓ]
  rcases hl with rfl | rfl
  · obtain ⟨ks, m', room', e2, h2, w, dp, c, z⟩ := kids_while HD HG hd hj (.val (.int 0)) .un 1000 [] r m room h e (by omega) (by omega) (by simp; omega) hr
    refine ⟨ks, m', room', ?_, h2, w, dp, c, z, by omega⟩
    have er : rng1 [.int 0] = some [] := rfl
    simp only [kdT, kdB, List.nil_append, toldL] at e2
    simp (decide := true) only [runB, runI, bnd, lift, exS, sSeq, sSeqF, sNil, sSet, sSetN, sSetL, sIf, sRet, sRetN, sExp, sFor, sExt, sApp, sFrz, sPar, sPar3, sUnp, sSetIx, sBrk, sCnt, eVar, rVar, eC, op1, op2, eCall, eNew, aCons, aNil, aStar, eTup, eL, nLst, nRev, nLc, eBlt, eIf, eAnd, eOr, eNotV, tTru, tBl, tNt, tAn, tOrr, tYesM, truW, blW, eChain, iSeq, itW, iRng, bName, bTup, bAll, eMt, ePush, eJoin, jsW, e1M, e2M, sAug, sSup, sFldS, sTree, wipeS, lenW, tupleW, frzb, toW, clsO, eSl, oSome, oNone, Sm.ret, Sm.bad, List.map_cons, List.map_nil, List.length_cons, List.length_nil, List.cons_append, List.nil_append, List.append_nil, List.replicate_succ, List.replicate_zero, List.set_cons_succ, List.set_cons_zero, List.getElem?_cons_succ, List.getElem?_cons_zero, List.length_append, List.length_map, if_true, if_false, reduceIte, Bool.true_and, Bool.and_true, Bool.not_true, Bool.not_false, Option.map_some, Option.map_none, Option.bind_some, Option.bind_none, le_size, lt_size, Nat.reduceLeDiff, Nat.reduceAdd, Nat.reduceSub, Nat.reducePow, Nat.zero_add, decide_eq_true_eq, Nat.reduceLT, gt_iff_lt, ge_iff_le, decide_true, decide_false, Bool.false_eq_true, Bool.or_true, Bool.true_or, Bool.or_false, Bool.false_or, Bool.false_and, Bool.and_false, or_true, true_or, and_true, true_and, or_false, false_or, and_false, false_and, and_self, not_false_eq_true, not_true_eq_false, b__law_kids, N__law_kids, er, lcM, e2]
  · obtain ⟨t, m1, room1, e1, h1', w1, d1, c1, z1⟩ := HG (d - 1) r m i j room hj (by omega) h e h1 hr
    have hc : 1 ≤ cnt t := by cases t <;> simp [cnt]
    obtain ⟨ks, m', room', e2, h2, w, dp, c, z⟩ := kids_while HD HG hd hj (.val (.int 1)) .un 1000 [t] _ m1 room1 h1' (set_set_get e) z1 (by omega) (by simp; omega) (by omega)
    refine ⟨t :: ks, m', room', ?_, by simpa using h2, ⟨w1, w⟩, by simp [depL]; omega, by simp [cntL]; omega, z, by simp; omega⟩
    have er : rng1 [.int 1] = some [.int 0] := rfl
    simp only [kdT, kdB, List.cons_append, List.nil_append, toldL] at e2
    simp (decide := true) only [runB, runI, bnd, lift, exS, sSeq, sSeqF, sNil, sSet, sSetN, sSetL, sIf, sRet, sRetN, sExp, sFor, sExt, sApp, sFrz, sPar, sPar3, sUnp, sSetIx, sBrk, sCnt, eVar, rVar, eC, op1, op2, eCall, eNew, aCons, aNil, aStar, eTup, eL, nLst, nRev, nLc, eBlt, eIf, eAnd, eOr, eNotV, tTru, tBl, tNt, tAn, tOrr, tYesM, truW, blW, eChain, iSeq, itW, iRng, bName, bTup, bAll, eMt, ePush, eJoin, jsW, e1M, e2M, sAug, sSup, sFldS, sTree, wipeS, lenW, tupleW, frzb, toW, clsO, eSl, oSome, oNone, Sm.ret, Sm.bad, List.map_cons, List.map_nil, List.length_cons, List.length_nil, List.cons_append, List.nil_append, List.append_nil, List.replicate_succ, List.replicate_zero, List.set_cons_succ, List.set_cons_zero, List.getElem?_cons_succ, List.getElem?_cons_zero, List.length_append, List.length_map, if_true, if_false, reduceIte, Bool.true_and, Bool.and_true, Bool.not_true, Bool.not_false, Option.map_some, Option.map_none, Option.bind_some, Option.bind_none, le_size, lt_size, Nat.reduceLeDiff, Nat.reduceAdd, Nat.reduceSub, Nat.reducePow, Nat.zero_add, decide_eq_true_eq, Nat.reduceLT, gt_iff_lt, ge_iff_le, decide_true, decide_false, Bool.false_eq_true, Bool.or_true, Bool.true_or, Bool.or_false, Bool.false_or, Bool.false_and, Bool.and_false, or_true, true_or, and_true, true_and, or_false, false_or, and_false, false_and, and_self, not_false_eq_true, not_true_eq_false, b__law_kids, N__law_kids, er, lcM, sub_int, e1, e2, toldL]
end Pl

namespace Pl
open PySem PySem.Spec PyProof.Rows L2 Sm
theorem ix10 : ixN 1 0 = some 0 := rfl
theorem ix10s : ixN (0 + 1) 0 = some 0 := rfl
theorem eq_set {r : Sto} {i : Nat} {o : MO} (e : r[i]? = some o) : r.set i o = r := by
  obtain ⟨hl, e'⟩ := List.getElem?_eq_some_iff.mp e
  rw [← e']
  simp
theorem grown_leaf {Γ Γ' : Gam} (HD : Draw Γ) (HP : Pick Γ) (HN : Name Γ) (n : Nat) (hΓ : Γ'.f 12 = runB N__law_grown.length (b__law_grown Γ)) (d : Int) (r m : Sto) (i j : Nat) (room : Int) (hj : j = i + 2) (h : DD r m) (e : r[i]? = some (.lst [.int room])) (h1 : 1 ≤ room)
    (q : Int) (m1 : Sto) (e1 : Γ.f 8 [.ref 1, .int 12] (m.set j (.lst [.int (room - 1)])) = .ok (.int q) m1) (g1 : DD (r.set i (.lst [.int (room - 1)])) m1) (hc : d < 1 ∨ room - 1 < 1 ∨ q < 2) :
    ∃ t m' room', Γ'.f 12 [.ref 1, .ref j, .int d] m = .ok (told t) m' ∧ DD (r.set i (.lst [.int room'])) m' ∧ Wf t ∧ dep t ≤ n ∧ (cnt t : Int) + room' = room ∧ 0 ≤ room' := by
  rw [hΓ]
  have er : (r.set i (.lst [.int (room - 1)]))[i]? = some (.lst [.int (room - 1)]) := set_set_get e
  obtain ⟨w, m2, e2, hw, g2⟩ := HP _ _ g1 [.str "do", .str "do", .str "ask"] (by simp) (by simp)
  obtain ⟨x, m3, e3, hx, g3⟩ := HN _ _ g2
  have hb : ∃ b, w = .str (zD b) := by
    simp only [List.mem_cons, List.not_mem_nil, or_false] at hw
    rcases hw with h | h | h
    · exact ⟨true, h⟩
    · exact ⟨true, h⟩
    · exact ⟨false, h⟩
  obtain ⟨b, rfl⟩ := hb
  refine ⟨.leaf b x, m3, room - 1, ?_, g3, hx, by simp [dep], by simp [cnt]; omega, by omega⟩
  have a1 := ix_room h hj e
  have a2 := DD_get h hj e
  have a3 := ix_room g1 hj er
  by_cases c1 : d < 1
  · simp (decide := true) only [runB, runI, bnd, lift, exS, sSeq, sSeqF, sNil, sSet, sSetN, sSetL, sIf, sRet, sRetN, sExp, sFor, sExt, sApp, sFrz, sPar, sPar3, sUnp, sSetIx, sBrk, sCnt, eVar, rVar, eC, op1, op2, eCall, eNew, aCons, aNil, aStar, eTup, eL, nLst, nRev, nLc, eBlt, eIf, eAnd, eOr, eNotV, tTru, tBl, tNt, tAn, tOrr, tYesM, truW, blW, eChain, iSeq, itW, iRng, bName, bTup, bAll, eMt, ePush, eJoin, jsW, e1M, e2M, sAug, sSup, sFldS, sTree, wipeS, lenW, tupleW, frzb, toW, clsO, eSl, oSome, oNone, Sm.ret, Sm.bad, List.map_cons, List.map_nil, List.length_cons, List.length_nil, List.cons_append, List.nil_append, List.append_nil, List.replicate_succ, List.replicate_zero, List.set_cons_succ, List.set_cons_zero, List.getElem?_cons_succ, List.getElem?_cons_zero, List.length_append, List.length_map, if_true, if_false, reduceIte, Bool.true_and, Bool.and_true, Bool.not_true, Bool.not_false, Option.map_some, Option.map_none, Option.bind_some, Option.bind_none, le_size, lt_size, Nat.reduceLeDiff, Nat.reduceAdd, Nat.reduceSub, Nat.reducePow, Nat.zero_add, decide_eq_true_eq, Nat.reduceLT, gt_iff_lt, ge_iff_le, decide_true, decide_false, Bool.false_eq_true, Bool.or_true, Bool.true_or, Bool.or_false, Bool.false_or, Bool.false_and, Bool.and_false, or_true, true_or, and_true, true_and, or_false, false_or, and_false, false_and, and_self, not_false_eq_true, not_true_eq_false, b__law_grown, N__law_grown, a1, a2, sub_int, ix10, ix10s, e1, lt_int, c1, e2, e3, told]
  · by_cases c2 : room - 1 < 1
    · simp (decide := true) only [runB, runI, bnd, lift, exS, sSeq, sSeqF, sNil, sSet, sSetN, sSetL, sIf, sRet, sRetN, sExp, sFor, sExt, sApp, sFrz, sPar, sPar3, sUnp, sSetIx, sBrk, sCnt, eVar, rVar, eC, op1, op2, eCall, eNew, aCons, aNil, aStar, eTup, eL, nLst, nRev, nLc, eBlt, eIf, eAnd, eOr, eNotV, tTru, tBl, tNt, tAn, tOrr, tYesM, truW, blW, eChain, iSeq, itW, iRng, bName, bTup, bAll, eMt, ePush, eJoin, jsW, e1M, e2M, sAug, sSup, sFldS, sTree, wipeS, lenW, tupleW, frzb, toW, clsO, eSl, oSome, oNone, Sm.ret, Sm.bad, List.map_cons, List.map_nil, List.length_cons, List.length_nil, List.cons_append, List.nil_append, List.append_nil, List.replicate_succ, List.replicate_zero, List.set_cons_succ, List.set_cons_zero, List.getElem?_cons_succ, List.getElem?_cons_zero, List.length_append, List.length_map, if_true, if_false, reduceIte, Bool.true_and, Bool.and_true, Bool.not_true, Bool.not_false, Option.map_some, Option.map_none, Option.bind_some, Option.bind_none, le_size, lt_size, Nat.reduceLeDiff, Nat.reduceAdd, Nat.reduceSub, Nat.reducePow, Nat.zero_add, decide_eq_true_eq, Nat.reduceLT, gt_iff_lt, ge_iff_le, decide_true, decide_false, Bool.false_eq_true, Bool.or_true, Bool.true_or, Bool.or_false, Bool.false_or, Bool.false_and, Bool.and_false, or_true, true_or, and_true, true_and, or_false, false_or, and_false, false_and, and_self, not_false_eq_true, not_true_eq_false, b__law_grown, N__law_grown, a1, a2, a3, sub_int, ix10, ix10s, e1, lt_int, c1, c2, e2, e3, told]
    · have c3 : q < 2 := by omega
      simp (decide := true) only [runB, runI, bnd, lift, exS, sSeq, sSeqF, sNil, sSet, sSetN, sSetL, sIf, sRet, sRetN, sExp, sFor, sExt, sApp, sFrz, sPar, sPar3, sUnp, sSetIx, sBrk, sCnt, eVar, rVar, eC, op1, op2, eCall, eNew, aCons, aNil, aStar, eTup, eL, nLst, nRev, nLc, eBlt, eIf, eAnd, eOr, eNotV, tTru, tBl, tNt, tAn, tOrr, tYesM, truW, blW, eChain, iSeq, itW, iRng, bName, bTup, bAll, eMt, ePush, eJoin, jsW, e1M, e2M, sAug, sSup, sFldS, sTree, wipeS, lenW, tupleW, frzb, toW, clsO, eSl, oSome, oNone, Sm.ret, Sm.bad, List.map_cons, List.map_nil, List.length_cons, List.length_nil, List.cons_append, List.nil_append, List.append_nil, List.replicate_succ, List.replicate_zero, List.set_cons_succ, List.set_cons_zero, List.getElem?_cons_succ, List.getElem?_cons_zero, List.length_append, List.length_map, if_true, if_false, reduceIte, Bool.true_and, Bool.and_true, Bool.not_true, Bool.not_false, Option.map_some, Option.map_none, Option.bind_some, Option.bind_none, le_size, lt_size, Nat.reduceLeDiff, Nat.reduceAdd, Nat.reduceSub, Nat.reducePow, Nat.zero_add, decide_eq_true_eq, Nat.reduceLT, gt_iff_lt, ge_iff_le, decide_true, decide_false, Bool.false_eq_true, Bool.or_true, Bool.true_or, Bool.or_false, Bool.false_or, Bool.false_and, Bool.and_false, or_true, true_or, and_true, true_and, or_false, false_or, and_false, false_and, and_self, not_false_eq_true, not_true_eq_false, b__law_grown, N__law_grown, a1, a2, a3, sub_int, ix10, ix10s, e1, lt_int, c1, c2, c3, e2, e3, told]
theorem grown_0 {Γ Γ' : Gam} (HD : Draw Γ) (HP : Pick Γ) (HN : Name Γ) (hΓ : Γ'.f 12 = runB N__law_grown.length (b__law_grown Γ)) : Gr Γ' 0 := by
  intro d r m i j room hj hd h e h1 hr
  have g0 := DD_set h hj (.lst [.int (room - 1)])
  obtain ⟨q, m1, e1, _, _, g1⟩ := HD _ _ g0 12 (by omega) (by omega)
  exact grown_leaf HD HP HN 0 hΓ d r m i j room hj h e h1 q m1 e1 g1 (.inl (by omega))
theorem grown_S {Γ Γ' : Gam} (HD : Draw Γ) (HP : Pick Γ) (HN : Name Γ) {n : Nat} (HG : Gr Γ n) (HK : Kd Γ n) (hΓ : Γ'.f 12 = runB N__law_grown.length (b__law_grown Γ)) : Gr Γ' (n + 1) := by
  intro d r m i j room hj hd h e h1 hr
  have g0 := DD_set h hj (.lst [.int (room - 1)])
  obtain ⟨q, m1, e1, q0, q1, g1⟩ := HD _ _ g0 12 (by omega) (by omega)
  by_cases hc : d < 1 ∨ room - 1 < 1 ∨ q < 2
  · exact grown_leaf HD HP HN (n + 1) hΓ d r m i j room hj h e h1 q m1 e1 g1 hc
  have c1 : ¬ d < 1 := by omega
  have c2 : ¬ room - 1 < 1 := by omega
  have c3 : ¬ q < 2 := by omega
  have er : (r.set i (.lst [.int (room - 1)]))[i]? = some (.lst [.int (room - 1)]) := set_set_get e
  have a1 := ix_room h hj e
  have a2 := DD_get h hj e
  have a3 := ix_room g1 hj er
  have hsub : d - 1 ≤ (n : Int) := by omega
  rw [hΓ]
  by_cases c6 : q < 6
  · obtain ⟨w, m2, e2, hw, g2⟩ := HP _ _ g1 [.str "row", .str "first"] (by simp) (by simp)
    have hb : ∃ b, w = .str (zR b) := by
      simp only [List.mem_cons, List.not_mem_nil, or_false] at hw
      rcases hw with h | h
      · exact ⟨true, h⟩
      · exact ⟨false, h⟩
    obtain ⟨b, rfl⟩ := hb
    obtain ⟨p, m3, e3, p0, p1, g3⟩ := HD _ _ g2 2 (by omega) (by omega)
    obtain ⟨ks, m4, room4, e4, g4, w4, d4, k4, z4, _⟩ := HK d _ m3 i j (room - 1) 0 hj (by omega) g3 er (by omega) (by omega) (.inl rfl)
    rw [List.set_set] at g4
    refine ⟨.many b (decide (p = 0)) ks, m4, room4, ?_, g4, w4, by simp [dep]; omega, by simp [cnt]; omega, z4⟩
    simp (decide := true) only [runB, runI, bnd, lift, exS, sSeq, sSeqF, sNil, sSet, sSetN, sSetL, sIf, sRet, sRetN, sExp, sFor, sExt, sApp, sFrz, sPar, sPar3, sUnp, sSetIx, sBrk, sCnt, eVar, rVar, eC, op1, op2, eCall, eNew, aCons, aNil, aStar, eTup, eL, nLst, nRev, nLc, eBlt, eIf, eAnd, eOr, eNotV, tTru, tBl, tNt, tAn, tOrr, tYesM, truW, blW, eChain, iSeq, itW, iRng, bName, bTup, bAll, eMt, ePush, eJoin, jsW, e1M, e2M, sAug, sSup, sFldS, sTree, wipeS, lenW, tupleW, frzb, toW, clsO, eSl, oSome, oNone, Sm.ret, Sm.bad, List.map_cons, List.map_nil, List.length_cons, List.length_nil, List.cons_append, List.nil_append, List.append_nil, List.replicate_succ, List.replicate_zero, List.set_cons_succ, List.set_cons_zero, List.getElem?_cons_succ, List.getElem?_cons_zero, List.length_append, List.length_map, if_true, if_false, reduceIte, Bool.true_and, Bool.and_true, Bool.not_true, Bool.not_false, Option.map_some, Option.map_none, Option.bind_some, Option.bind_none, le_size, lt_size, Nat.reduceLeDiff, Nat.reduceAdd, Nat.reduceSub, Nat.reducePow, Nat.zero_add, decide_eq_true_eq, Nat.reduceLT, gt_iff_lt, ge_iff_le, decide_true, decide_false, Bool.false_eq_true, Bool.or_true, Bool.true_or, Bool.or_false, Bool.false_or, Bool.false_and, Bool.and_false, or_true, true_or, and_true, true_and, or_false, false_or, and_false, false_and, and_self, not_false_eq_true, not_true_eq_false, b__law_grown, N__law_grown, a1, a2, a3, sub_int, ix10, ix10s, e1, lt_int, c1, c2, c3, c6, e2, e3, eqW_int, e4, told]
  by_cases c8 : q < 8
  · obtain ⟨ks, m2, room2, e2, g2, w2, d2, k2, z2, l2⟩ := HK d _ m1 i j (room - 1) 1 hj (by omega) g1 er (by omega) (by omega) (.inr rfl)
    rw [List.set_set] at g2
    have hkl := len_cnt ks
    obtain ⟨p, m3, e3, p0, p1, g3⟩ := HD _ _ g2 (ks.length : Int) (by omega) (by omega)
    refine ⟨.beside (1 + p) ks, m3, room2, ?_, g3, ⟨by omega, by omega, w2⟩, by simp [dep]; omega, by simp [cnt]; omega, z2⟩
    simp (decide := true) only [runB, runI, bnd, lift, exS, sSeq, sSeqF, sNil, sSet, sSetN, sSetL, sIf, sRet, sRetN, sExp, sFor, sExt, sApp, sFrz, sPar, sPar3, sUnp, sSetIx, sBrk, sCnt, eVar, rVar, eC, op1, op2, eCall, eNew, aCons, aNil, aStar, eTup, eL, nLst, nRev, nLc, eBlt, eIf, eAnd, eOr, eNotV, tTru, tBl, tNt, tAn, tOrr, tYesM, truW, blW, eChain, iSeq, itW, iRng, bName, bTup, bAll, eMt, ePush, eJoin, jsW, e1M, e2M, sAug, sSup, sFldS, sTree, wipeS, lenW, tupleW, frzb, toW, clsO, eSl, oSome, oNone, Sm.ret, Sm.bad, List.map_cons, List.map_nil, List.length_cons, List.length_nil, List.cons_append, List.nil_append, List.append_nil, List.replicate_succ, List.replicate_zero, List.set_cons_succ, List.set_cons_zero, List.getElem?_cons_succ, List.getElem?_cons_zero, List.length_append, List.length_map, if_true, if_false, reduceIte, Bool.true_and, Bool.and_true, Bool.not_true, Bool.not_false, Option.map_some, Option.map_none, Option.bind_some, Option.bind_none, le_size, lt_size, Nat.reduceLeDiff, Nat.reduceAdd, Nat.reduceSub, Nat.reducePow, Nat.zero_add, decide_eq_true_eq, Nat.reduceLT, gt_iff_lt, ge_iff_le, decide_true, decide_false, Bool.false_eq_true, Bool.or_true, Bool.true_or, Bool.or_false, Bool.false_or, Bool.false_and, Bool.and_false, or_true, true_or, and_true, true_and, or_false, false_or, and_false, false_and, and_self, not_false_eq_true, not_true_eq_false, b__law_grown, N__law_grown, a1, a2, a3, sub_int, ix10, ix10s, e1, lt_int, c1, c2, c3, c6, c8, e2, toldL_len, e3, add_int, told]
  by_cases c9 : q = 8
  · subst c9
    obtain ⟨w, m2, e2, hw, g2⟩ := HP _ _ g1 [.non, .int 1, .int 2, .int 9] (by simp) (by simp)
    obtain ⟨t, m3, room3, e3, g3, w3, d3, k3, z3⟩ := HG (d - 1) _ m2 i j (room - 1) hj hsub g2 er (by omega) (by omega)
    rw [List.set_set] at g3
    have hb : ∃ o : Option Int, w = opI o ∧ ∀ z, o = some z → 1 ≤ z ∧ z ≤ 1000 := by
      simp only [List.mem_cons, List.not_mem_nil, or_false] at hw
      rcases hw with h | h | h | h
      · exact ⟨none, h, by simp⟩
      · exact ⟨some 1, h, by simp⟩
      · exact ⟨some 2, h, by simp⟩
      · exact ⟨some 9, h, by simp⟩
    obtain ⟨o, rfl, ho⟩ := hb
    refine ⟨.again o t, m3, room3, ?_, g3, ⟨ho, w3⟩, by simp [dep]; omega, by simp [cnt]; omega, z3⟩
    simp (decide := true) only [runB, runI, bnd, lift, exS, sSeq, sSeqF, sNil, sSet, sSetN, sSetL, sIf, sRet, sRetN, sExp, sFor, sExt, sApp, sFrz, sPar, sPar3, sUnp, sSetIx, sBrk, sCnt, eVar, rVar, eC, op1, op2, eCall, eNew, aCons, aNil, aStar, eTup, eL, nLst, nRev, nLc, eBlt, eIf, eAnd, eOr, eNotV, tTru, tBl, tNt, tAn, tOrr, tYesM, truW, blW, eChain, iSeq, itW, iRng, bName, bTup, bAll, eMt, ePush, eJoin, jsW, e1M, e2M, sAug, sSup, sFldS, sTree, wipeS, lenW, tupleW, frzb, toW, clsO, eSl, oSome, oNone, Sm.ret, Sm.bad, List.map_cons, List.map_nil, List.length_cons, List.length_nil, List.cons_append, List.nil_append, List.append_nil, List.replicate_succ, List.replicate_zero, List.set_cons_succ, List.set_cons_zero, List.getElem?_cons_succ, List.getElem?_cons_zero, List.length_append, List.length_map, if_true, if_false, reduceIte, Bool.true_and, Bool.and_true, Bool.not_true, Bool.not_false, Option.map_some, Option.map_none, Option.bind_some, Option.bind_none, le_size, lt_size, Nat.reduceLeDiff, Nat.reduceAdd, Nat.reduceSub, Nat.reducePow, Nat.zero_add, decide_eq_true_eq, Nat.reduceLT, gt_iff_lt, ge_iff_le, decide_true, decide_false, Bool.false_eq_true, Bool.or_true, Bool.true_or, Bool.or_false, Bool.false_or, Bool.false_and, Bool.and_false, or_true, true_or, and_true, true_and, or_false, false_or, and_false, false_and, and_self, not_false_eq_true, not_true_eq_false, b__law_grown, N__law_grown, a1, a2, a3, sub_int, ix10, ix10s, e1, lt_int, c1, c2, c3, c6, c8, eqW_int, e2, e3, told]
  by_cases c10 : q = 9
  · subst c10
    obtain ⟨w, m2, e2, hw, g2⟩ := HP _ _ g1 [.str "while", .str "if"] (by simp) (by simp)
    have hb : ∃ b, w = .str (zW b) := by
      simp only [List.mem_cons, List.not_mem_nil, or_false] at hw
      rcases hw with h | h
      · exact ⟨true, h⟩
      · exact ⟨false, h⟩
    obtain ⟨b, rfl⟩ := hb
    obtain ⟨x, m3, e3, hx, g3⟩ := HN _ _ g2
    obtain ⟨t, m4, room4, e4, g4, w4, d4, k4, z4⟩ := HG (d - 1) _ m3 i j (room - 1) hj hsub g3 er (by omega) (by omega)
    rw [List.set_set] at g4
    refine ⟨.grd b x t, m4, room4, ?_, g4, ⟨hx, w4⟩, by simp [dep]; omega, by simp [cnt]; omega, z4⟩
    simp (decide := true) only [runB, runI, bnd, lift, exS, sSeq, sSeqF, sNil, sSet, sSetN, sSetL, sIf, sRet, sRetN, sExp, sFor, sExt, sApp, sFrz, sPar, sPar3, sUnp, sSetIx, sBrk, sCnt, eVar, rVar, eC, op1, op2, eCall, eNew, aCons, aNil, aStar, eTup, eL, nLst, nRev, nLc, eBlt, eIf, eAnd, eOr, eNotV, tTru, tBl, tNt, tAn, tOrr, tYesM, truW, blW, eChain, iSeq, itW, iRng, bName, bTup, bAll, eMt, ePush, eJoin, jsW, e1M, e2M, sAug, sSup, sFldS, sTree, wipeS, lenW, tupleW, frzb, toW, clsO, eSl, oSome, oNone, Sm.ret, Sm.bad, List.map_cons, List.map_nil, List.length_cons, List.length_nil, List.cons_append, List.nil_append, List.append_nil, List.replicate_succ, List.replicate_zero, List.set_cons_succ, List.set_cons_zero, List.getElem?_cons_succ, List.getElem?_cons_zero, List.length_append, List.length_map, if_true, if_false, reduceIte, Bool.true_and, Bool.and_true, Bool.not_true, Bool.not_false, Option.map_some, Option.map_none, Option.bind_some, Option.bind_none, le_size, lt_size, Nat.reduceLeDiff, Nat.reduceAdd, Nat.reduceSub, Nat.reducePow, Nat.zero_add, decide_eq_true_eq, Nat.reduceLT, gt_iff_lt, ge_iff_le, decide_true, decide_false, Bool.false_eq_true, Bool.or_true, Bool.true_or, Bool.or_false, Bool.false_or, Bool.false_and, Bool.and_false, or_true, true_or, and_true, true_and, or_false, false_or, and_false, false_and, and_self, not_false_eq_true, not_true_eq_false, b__law_grown, N__law_grown, a1, a2, a3, sub_int, ix10, ix10s, e1, lt_int, c1, c2, c3, c6, c8, eqW_int, e2, e3, e4, told]
  by_cases c11 : q = 10
  · subst c11
    obtain ⟨t, m4, room4, e4, g4, w4, d4, k4, z4⟩ := HG (d - 1) _ m1 i j (room - 1) hj hsub g1 er (by omega) (by omega)
    rw [List.set_set] at g4
    refine ⟨.nt t, m4, room4, ?_, g4, w4, by simp [dep]; omega, by simp [cnt]; omega, z4⟩
    simp (decide := true) only [runB, runI, bnd, lift, exS, sSeq, sSeqF, sNil, sSet, sSetN, sSetL, sIf, sRet, sRetN, sExp, sFor, sExt, sApp, sFrz, sPar, sPar3, sUnp, sSetIx, sBrk, sCnt, eVar, rVar, eC, op1, op2, eCall, eNew, aCons, aNil, aStar, eTup, eL, nLst, nRev, nLc, eBlt, eIf, eAnd, eOr, eNotV, tTru, tBl, tNt, tAn, tOrr, tYesM, truW, blW, eChain, iSeq, itW, iRng, bName, bTup, bAll, eMt, ePush, eJoin, jsW, e1M, e2M, sAug, sSup, sFldS, sTree, wipeS, lenW, tupleW, frzb, toW, clsO, eSl, oSome, oNone, Sm.ret, Sm.bad, List.map_cons, List.map_nil, List.length_cons, List.length_nil, List.cons_append, List.nil_append, List.append_nil, List.replicate_succ, List.replicate_zero, List.set_cons_succ, List.set_cons_zero, List.getElem?_cons_succ, List.getElem?_cons_zero, List.length_append, List.length_map, if_true, if_false, reduceIte, Bool.true_and, Bool.and_true, Bool.not_true, Bool.not_false, Option.map_some, Option.map_none, Option.bind_some, Option.bind_none, le_size, lt_size, Nat.reduceLeDiff, Nat.reduceAdd, Nat.reduceSub, Nat.reducePow, Nat.zero_add, decide_eq_true_eq, Nat.reduceLT, gt_iff_lt, ge_iff_le, decide_true, decide_false, Bool.false_eq_true, Bool.or_true, Bool.true_or, Bool.or_false, Bool.false_or, Bool.false_and, Bool.and_false, or_true, true_or, and_true, true_and, or_false, false_or, and_false, false_and, and_self, not_false_eq_true, not_true_eq_false, b__law_grown, N__law_grown, a1, a2, a3, sub_int, ix10, ix10s, e1, lt_int, c1, c2, c3, c6, c8, eqW_int, e4, told]
  · obtain ⟨w, m2, e2, hw, g2⟩ := HP _ _ g1 [.str "well", .str "ill"] (by simp) (by simp)
    have hb : ∃ b, w = .str (zA b) := by
      simp only [List.mem_cons, List.not_mem_nil, or_false] at hw
      rcases hw with h | h
      · exact ⟨true, h⟩
      · exact ⟨false, h⟩
    obtain ⟨b, rfl⟩ := hb
    obtain ⟨t, m4, room4, e4, g4, w4, d4, k4, z4⟩ := HG (d - 1) _ m2 i j (room - 1) hj hsub g2 er (by omega) (by omega)
    rw [List.set_set] at g4
    refine ⟨.alw b t, m4, room4, ?_, g4, w4, by simp [dep]; omega, by simp [cnt]; omega, z4⟩
    simp (decide := true) only [runB, runI, bnd, lift, exS, sSeq, sSeqF, sNil, sSet, sSetN, sSetL, sIf, sRet, sRetN, sExp, sFor, sExt, sApp, sFrz, sPar, sPar3, sUnp, sSetIx, sBrk, sCnt, eVar, rVar, eC, op1, op2, eCall, eNew, aCons, aNil, aStar, eTup, eL, nLst, nRev, nLc, eBlt, eIf, eAnd, eOr, eNotV, tTru, tBl, tNt, tAn, tOrr, tYesM, truW, blW, eChain, iSeq, itW, iRng, bName, bTup, bAll, eMt, ePush, eJoin, jsW, e1M, e2M, sAug, sSup, sFldS, sTree, wipeS, lenW, tupleW, frzb, toW, clsO, eSl, oSome, oNone, Sm.ret, Sm.bad, List.map_cons, List.map_nil, List.length_cons, List.length_nil, List.cons_append, List.nil_append, List.append_nil, List.replicate_succ, List.replicate_zero, List.set_cons_succ, List.set_cons_zero, List.getElem?_cons_succ, List.getElem?_cons_zero, List.length_append, List.length_map, if_true, if_false, reduceIte, Bool.true_and, Bool.and_true, Bool.not_true, Bool.not_false, Option.map_some, Option.map_none, Option.bind_some, Option.bind_none, le_size, lt_size, Nat.reduceLeDiff, Nat.reduceAdd, Nat.reduceSub, Nat.reducePow, Nat.zero_add, decide_eq_true_eq, Nat.reduceLT, gt_iff_lt, ge_iff_le, decide_true, decide_false, Bool.false_eq_true, Bool.or_true, Bool.true_or, Bool.or_false, Bool.false_or, Bool.false_and, Bool.and_false, or_true, true_or, and_true, true_and, or_false, false_or, and_false, false_and, and_self, not_false_eq_true, not_true_eq_false, b__law_grown, N__law_grown, a1, a2, a3, sub_int, ix10, ix10s, e1, lt_int, c1, c2, c3, c6, c8, c9, c10, c11, eqW_int, e2, e4, told]
theorem grown_K : ∀ (n : Nat) {K : Nat}, 4 + 2 * n ≤ K → Gr (Sv K) n
  | 0, K, h => by
    obtain ⟨k, rfl⟩ : ∃ k, K = k + 1 := ⟨K - 1, by omega⟩
    exact grown_0 (draw_K (by omega)) (pick_K (by omega)) (name_K (by omega)) (Sf__law_grown k)
  | n + 1, K, h => by
    obtain ⟨k, rfl⟩ : ∃ k, K = k + 1 := ⟨K - 1, by omega⟩
    obtain ⟨k', rfl⟩ : ∃ k', k = k' + 1 := ⟨k - 1, by omega⟩
    exact grown_S (draw_K (by omega)) (pick_K (by omega)) (name_K (by omega)) (grown_K n (by omega)) (kids_of (draw_K (by omega)) (grown_K n (by omega)) (Sf__law_kids k')) (Sf__law_grown (k' + 1))
end Pl

namespace Pl
open PySem PySem.Spec PyProof.Rows L2 Sm
theorem cut_int (ns : List Int) (lo hi : Option Int) : ∃ ys : List Int, cutW (ns.map .int) lo hi = ys.map .int ∧ ys.length ≤ ns.length := by
  unfold cutW
  rw [← List.map_drop, ← List.map_take]
  exact ⟨_, rfl, by simp; omega⟩
theorem abs_loop (m : Sto) (v0 v1 v2 v3 v4 : Sl) : ∀ ys : List Int, ∃ zs : List Int, zs.length = ys.length ∧ lcM (bName 4) tYesM (eBlt absW (aCons (rVar 4) aNil)) [v0, v1, v2, v3, v4] (ys.map .int) m = .ok (zs.map .int) m
  | [] => ⟨[], rfl, rfl⟩
  | y :: ys => by
    obtain ⟨zs, hl, e⟩ := abs_loop m v0 v1 v2 v3 v4 ys
    refine ⟨(if y < 0 then -y else y) :: zs, by simp [hl], ?_⟩
    simp (decide := true) only [runB, runI, bnd, lift, exS, sSeq, sSeqF, sNil, sSet, sSetN, sSetL, sIf, sRet, sRetN, sExp, sFor, sExt, sApp, sFrz, sPar, sPar3, sUnp, sSetIx, sBrk, sCnt, eVar, rVar, eC, op1, op2, eCall, eNew, aCons, aNil, aStar, eTup, eL, nLst, nRev, nLc, eBlt, eIf, eAnd, eOr, eNotV, tTru, tBl, tNt, tAn, tOrr, tYesM, truW, blW, eChain, iSeq, itW, iRng, bName, bTup, bAll, eMt, ePush, eJoin, jsW, e1M, e2M, sAug, sSup, sFldS, sTree, wipeS, lenW, tupleW, frzb, toW, clsO, eSl, oSome, oNone, Sm.ret, Sm.bad, List.map_cons, List.map_nil, List.length_cons, List.length_nil, List.cons_append, List.nil_append, List.append_nil, List.replicate_succ, List.replicate_zero, List.set_cons_succ, List.set_cons_zero, List.getElem?_cons_succ, List.getElem?_cons_zero, List.length_append, List.length_map, if_true, if_false, reduceIte, Bool.true_and, Bool.and_true, Bool.not_true, Bool.not_false, Option.map_some, Option.map_none, Option.bind_some, Option.bind_none, le_size, lt_size, Nat.reduceLeDiff, Nat.reduceAdd, Nat.reduceSub, Nat.reducePow, Nat.zero_add, decide_eq_true_eq, Nat.reduceLT, gt_iff_lt, ge_iff_le, decide_true, decide_false, Bool.false_eq_true, Bool.or_true, Bool.true_or, Bool.or_false, Bool.false_or, Bool.false_and, Bool.and_false, or_true, true_or, and_true, true_and, or_false, false_or, and_false, false_and, and_self, not_false_eq_true, not_true_eq_false, lcM, absW]
    rw [e]
theorem mul_r (i j : Int) (m : Sto) (h : -(2 ^ 64) < j ∧ j < 2 ^ 64) : mulW (.int i) (.int j) m = some (.int (i * j)) := by
  simp only [mulW]
  rw [if_pos (.inr h)]
theorem mod_pos (i j : Int) (m : Sto) (h : 0 < j) : modW (.int i) (.int j) m = some (.int (i % j)) := by
  simp only [modW]
  rw [if_pos h]
theorem int_int (i : Int) (m : Sto) : intW [.int i] m = some (.int i) := rfl
theorem mix_loop (m : Sto) (v0 v1 v2 : Sl) : ∀ (ys : List Int) (x : Int) (u : Sl), ∃ x' u', forW (bName 4) (sSet 3 (op2 modW (eBlt intW (aCons (op2 addW (op2 mulW (rVar 3) (eC (.int 16807))) (op2 modW (eBlt intW (aCons (rVar 4) aNil)) (eC (.int 2147483629)))) aNil)) (eC (.int 2147483647)))) (ys.map .int) [v0, v1, v2, .val (.int x), u] m = .ok (.nx [v0, v1, v2, .val (.int x'), u']) m
  | [], x, u => ⟨x, u, rfl⟩
  | y :: ys, x, u => by
    obtain ⟨x', u', e⟩ := mix_loop m v0 v1 v2 ys ((x * 16807 + y % 2147483629) % 2147483647) (.val (.int y))
    refine ⟨x', u', ?_⟩
    simp (decide := true) only [runB, runI, bnd, lift, exS, sSeq, sSeqF, sNil, sSet, sSetN, sSetL, sIf, sRet, sRetN, sExp, sFor, sExt, sApp, sFrz, sPar, sPar3, sUnp, sSetIx, sBrk, sCnt, eVar, rVar, eC, op1, op2, eCall, eNew, aCons, aNil, aStar, eTup, eL, nLst, nRev, nLc, eBlt, eIf, eAnd, eOr, eNotV, tTru, tBl, tNt, tAn, tOrr, tYesM, truW, blW, eChain, iSeq, itW, iRng, bName, bTup, bAll, eMt, ePush, eJoin, jsW, e1M, e2M, sAug, sSup, sFldS, sTree, wipeS, lenW, tupleW, frzb, toW, clsO, eSl, oSome, oNone, Sm.ret, Sm.bad, List.map_cons, List.map_nil, List.length_cons, List.length_nil, List.cons_append, List.nil_append, List.append_nil, List.replicate_succ, List.replicate_zero, List.set_cons_succ, List.set_cons_zero, List.getElem?_cons_succ, List.getElem?_cons_zero, List.length_append, List.length_map, if_true, if_false, reduceIte, Bool.true_and, Bool.and_true, Bool.not_true, Bool.not_false, Option.map_some, Option.map_none, Option.bind_some, Option.bind_none, le_size, lt_size, Nat.reduceLeDiff, Nat.reduceAdd, Nat.reduceSub, Nat.reducePow, Nat.zero_add, decide_eq_true_eq, Nat.reduceLT, gt_iff_lt, ge_iff_le, decide_true, decide_false, Bool.false_eq_true, Bool.or_true, Bool.true_or, Bool.or_false, Bool.false_or, Bool.false_and, Bool.and_false, or_true, true_or, and_true, true_and, or_false, false_or, and_false, false_and, and_self, not_false_eq_true, not_true_eq_false, forW, mul_r _ 16807 _ (by decide), int_int, mod_pos _ 2147483629 _ (by decide), add_int, mod_pos _ 2147483647 _ (by decide)]
    rw [e]
theorem pow18 (m : Sto) : powW (.int 10) (.int 18) m = some (.int 1000000000000000000) := by rfl
theorem ge_int (i j : Int) (m : Sto) : cmpI (fun i j => decide (j ≤ i)) (.int i) (.int j) m = some (.bl (decide (j ≤ i))) := rfl
theorem big_loop (m : Sto) (v0 v1 v2 v3 v4 : Sl) : ∀ ys : List Int, ∃ zs : List Int, zs.length ≤ ys.length ∧ lcM (bName 4) (tBl (op2 (cmpI fun i j => decide (j ≤ i)) (rVar 4) (op2 powW (eC (.int 10)) (eC (.int 18))))) (eVar 4) [v0, v1, v2, v3, v4] (ys.map .int) m = .ok (zs.map .int) m
  | [] => ⟨[], Nat.le_refl _, rfl⟩
  | y :: ys => by
    obtain ⟨zs, hl, e⟩ := big_loop m v0 v1 v2 v3 v4 ys
    by_cases hy : 1000000000000000000 ≤ y
    · refine ⟨y :: zs, by simp [hl], ?_⟩
      simp (decide := true) only [runB, runI, bnd, lift, exS, sSeq, sSeqF, sNil, sSet, sSetN, sSetL, sIf, sRet, sRetN, sExp, sFor, sExt, sApp, sFrz, sPar, sPar3, sUnp, sSetIx, sBrk, sCnt, eVar, rVar, eC, op1, op2, eCall, eNew, aCons, aNil, aStar, eTup, eL, nLst, nRev, nLc, eBlt, eIf, eAnd, eOr, eNotV, tTru, tBl, tNt, tAn, tOrr, tYesM, truW, blW, eChain, iSeq, itW, iRng, bName, bTup, bAll, eMt, ePush, eJoin, jsW, e1M, e2M, sAug, sSup, sFldS, sTree, wipeS, lenW, tupleW, frzb, toW, clsO, eSl, oSome, oNone, Sm.ret, Sm.bad, List.map_cons, List.map_nil, List.length_cons, List.length_nil, List.cons_append, List.nil_append, List.append_nil, List.replicate_succ, List.replicate_zero, List.set_cons_succ, List.set_cons_zero, List.getElem?_cons_succ, List.getElem?_cons_zero, List.length_append, List.length_map, if_true, if_false, reduceIte, Bool.true_and, Bool.and_true, Bool.not_true, Bool.not_false, Option.map_some, Option.map_none, Option.bind_some, Option.bind_none, le_size, lt_size, Nat.reduceLeDiff, Nat.reduceAdd, Nat.reduceSub, Nat.reducePow, Nat.zero_add, decide_eq_true_eq, Nat.reduceLT, gt_iff_lt, ge_iff_le, decide_true, decide_false, Bool.false_eq_true, Bool.or_true, Bool.true_or, Bool.or_false, Bool.false_or, Bool.false_and, Bool.and_false, or_true, true_or, and_true, true_and, or_false, false_or, and_false, false_and, and_self, not_false_eq_true, not_true_eq_false, lcM, pow18, ge_int, hy]
      rw [e]
    · refine ⟨zs, by simp; omega, ?_⟩
      simp (decide := true) only [runB, runI, bnd, lift, exS, sSeq, sSeqF, sNil, sSet, sSetN, sSetL, sIf, sRet, sRetN, sExp, sFor, sExt, sApp, sFrz, sPar, sPar3, sUnp, sSetIx, sBrk, sCnt, eVar, rVar, eC, op1, op2, eCall, eNew, aCons, aNil, aStar, eTup, eL, nLst, nRev, nLc, eBlt, eIf, eAnd, eOr, eNotV, tTru, tBl, tNt, tAn, tOrr, tYesM, truW, blW, eChain, iSeq, itW, iRng, bName, bTup, bAll, eMt, ePush, eJoin, jsW, e1M, e2M, sAug, sSup, sFldS, sTree, wipeS, lenW, tupleW, frzb, toW, clsO, eSl, oSome, oNone, Sm.ret, Sm.bad, List.map_cons, List.map_nil, List.length_cons, List.length_nil, List.cons_append, List.nil_append, List.append_nil, List.replicate_succ, List.replicate_zero, List.set_cons_succ, List.set_cons_zero, List.getElem?_cons_succ, List.getElem?_cons_zero, List.length_append, List.length_map, if_true, if_false, reduceIte, Bool.true_and, Bool.and_true, Bool.not_true, Bool.not_false, Option.map_some, Option.map_none, Option.bind_some, Option.bind_none, le_size, lt_size, Nat.reduceLeDiff, Nat.reduceAdd, Nat.reduceSub, Nat.reducePow, Nat.zero_add, decide_eq_true_eq, Nat.reduceLT, gt_iff_lt, ge_iff_le, decide_true, decide_false, Bool.false_eq_true, Bool.or_true, Bool.true_or, Bool.or_false, Bool.false_or, Bool.false_and, Bool.and_false, or_true, true_or, and_true, true_and, or_false, false_or, and_false, false_and, and_self, not_false_eq_true, not_true_eq_false, lcM, pow18, ge_int, hy]
      rw [e]
theorem deal_K {K : Nat} (hK : 1 ≤ K) (ns : List Int) (hn : ns.length ≤ 63) : ∃ m, (Sv K).f 7 [.lst (ns.map .int), .int 0] [] = .ok (.ref 1) m ∧ DD [] m := by
  obtain ⟨k, rfl⟩ : ∃ k, K = k + 1 := ⟨K - 1, by omega⟩
  rw [Sf__law_deal]
  obtain ⟨ys, e0, l0⟩ := cut_int ns (some 0) (some 63)
  obtain ⟨zs, l1, e1⟩ := abs_loop [] (.val (.lst (ns.map .int))) (.val (.int 0)) .un .un .un ys
  obtain ⟨x, u, e2⟩ := mix_loop [] (.val (.lst (ns.map .int))) (.val (.int 0)) (.val (.lst (zs.map .int))) zs (48611719 + 13 * 0) .un
  obtain ⟨bs, l3, e3⟩ := big_loop [] (.val (.lst (ns.map .int))) (.val (.int 0)) (.val (.lst (zs.map .int))) (.val (.int x)) .un zs
  refine ⟨D bs.reverse x [], ?_, bs.reverse, x, rfl, by simp; omega⟩
  have z1 : zs.length ≤ 16777216 := by omega
  have z2 : bs.length ≤ 16777216 := by omega
  simp (decide := true) only [runB, runI, bnd, lift, exS, sSeq, sSeqF, sNil, sSet, sSetN, sSetL, sIf, sRet, sRetN, sExp, sFor, sExt, sApp, sFrz, sPar, sPar3, sUnp, sSetIx, sBrk, sCnt, eVar, rVar, eC, op1, op2, eCall, eNew, aCons, aNil, aStar, eTup, eL, nLst, nRev, nLc, eBlt, eIf, eAnd, eOr, eNotV, tTru, tBl, tNt, tAn, tOrr, tYesM, truW, blW, eChain, iSeq, itW, iRng, bName, bTup, bAll, eMt, ePush, eJoin, jsW, e1M, e2M, sAug, sSup, sFldS, sTree, wipeS, lenW, tupleW, frzb, toW, clsO, eSl, oSome, oNone, Sm.ret, Sm.bad, List.map_cons, List.map_nil, List.length_cons, List.length_nil, List.cons_append, List.nil_append, List.append_nil, List.replicate_succ, List.replicate_zero, List.set_cons_succ, List.set_cons_zero, List.getElem?_cons_succ, List.getElem?_cons_zero, List.length_append, List.length_map, if_true, if_false, reduceIte, Bool.true_and, Bool.and_true, Bool.not_true, Bool.not_false, Option.map_some, Option.map_none, Option.bind_some, Option.bind_none, le_size, lt_size, Nat.reduceLeDiff, Nat.reduceAdd, Nat.reduceSub, Nat.reducePow, Nat.zero_add, decide_eq_true_eq, Nat.reduceLT, gt_iff_lt, ge_iff_le, decide_true, decide_false, Bool.false_eq_true, Bool.or_true, Bool.true_or, Bool.or_false, Bool.false_or, Bool.false_and, Bool.and_false, or_true, true_or, and_true, true_and, or_false, false_or, and_false, false_and, and_self, not_false_eq_true, not_true_eq_false, b__law_deal, N__law_deal, slW, e0, e1, z1, add_int, mul_r _ (0 : Int) _ (by decide), e2, e3, z2]
  simp [D]
end Pl

namespace Pl
open PySem PySem.Spec PyProof.Rows L2 Sm
theorem okL_app (a b : Str) : okL (a ++ b) = (okL a && okL b) := by
  show (a.cps ++ b.cps).toList.all _ = _
  rw [Array.toList_append, List.all_append]
  rfl
theorem okL_num {n : Int} (h : 0 ≤ n) : okL (Str.ofString (toString n)) = true := by
  obtain ⟨m, rfl⟩ := Int.eq_ofNat_of_zero_le h
  unfold okL
  rw [PySem.W.KIN.signs_num, List.all_map, List.all_eq_true]
  intro c _
  have h1 : c.toNat < 1114112 := by
    have hv := c.valid
    rcases hv with hv | hv
    · exact Nat.lt_trans hv (by decide)
    · exact hv.2
  simpa using h1
theorem okL_nm {x : Str} (h : Nm x) : okL x = true := by
  unfold okL
  rw [List.all_eq_true]
  intro c hc
  have := h.all c hc
  simp
  omega
/-- a line of a text -/
structure Ln (l : Str) : Prop where
  len : l.length ≤ 2000
  ok : okL l = true
theorem hd_ln (t : T) (h : Wf t) (hz : 2 * cnt t ≤ 16777216) : Ln (hd t) := by
  cases t with
  | leaf d x =>
    have hx : Nm x := h
    have h1 := hx.hi
    have h2 := okL_nm hx
    cases d
    · exact ⟨by simp only [hd, len_app, zD]; have : (Str.ofString "ask").length = 3 := rfl; have : (Str.ofString " ").length = 1 := rfl; simp only [Bool.false_eq_true, if_false]; omega, by simp only [hd, okL_app, h2, zD]; decide⟩
    · exact ⟨by simp only [hd, len_app, zD]; have : (Str.ofString "do").length = 2 := rfl; have : (Str.ofString " ").length = 1 := rfl; simp only [if_true]; omega, by simp only [hd, okL_app, h2, zD]; decide⟩
  | many r kp ks => cases r <;> cases kp <;> exact ⟨by simp only [hd]; decide, by simp only [hd]; decide⟩
  | beside n ks =>
    obtain ⟨h1, h2, _⟩ := h
    have h3 := len_cnt ks
    simp only [cnt] at hz
    have h4 := str_len (n := n) (by omega)
    have h5 := okL_num (n := n) (by omega)
    exact ⟨by simp only [hd, len_app]; have : (Str.ofString "beside").length = 6 := rfl; have : (Str.ofString " ").length = 1 := rfl; omega, by simp only [hd, okL_app, h5]; decide⟩
  | again r s =>
    cases r with
    | none => exact ⟨by simp only [hd]; decide, by simp only [hd]; decide⟩
    | some i =>
      obtain ⟨h1, h2⟩ := h.1 i rfl
      have h4 := str_len (n := i) (by omega)
      have h5 := okL_num (n := i) (by omega)
      exact ⟨by simp only [hd, len_app]; have : (Str.ofString "again").length = 5 := rfl; have : (Str.ofString " ").length = 1 := rfl; omega, by simp only [hd, okL_app, h5]; decide⟩
  | grd w x s =>
    have hx : Nm x := h.1
    have h1 := hx.hi
    have h2 := okL_nm hx
    cases w
    · exact ⟨by simp only [hd, len_app, zW]; have : (Str.ofString "if").length = 2 := rfl; have : (Str.ofString " ").length = 1 := rfl; simp only [Bool.false_eq_true, if_false]; omega, by simp only [hd, okL_app, h2, zW]; decide⟩
    · exact ⟨by simp only [hd, len_app, zW]; have : (Str.ofString "while").length = 5 := rfl; have : (Str.ofString " ").length = 1 := rfl; simp only [if_true]; omega, by simp only [hd, okL_app, h2, zW]; decide⟩
  | nt s => exact ⟨by simp only [hd]; decide, by simp only [hd]; decide⟩
  | alw w s => cases w <;> exact ⟨by simp only [hd]; decide, by simp only [hd]; decide⟩
mutual
theorem lns_ln : ∀ t : T, Wf t → 2 * cnt t ≤ 16777216 → ∀ l ∈ lns t, Ln l
  | .leaf d x, h, hz, l, hl => by
    simp [lns] at hl
    subst hl
    exact hd_ln _ h hz
  | .many r k ks, h, hz, l, hl => by
    simp only [lns, List.mem_cons, List.mem_append, List.not_mem_nil, or_false] at hl
    rcases hl with rfl | hl | rfl
    · exact hd_ln _ h hz
    · exact lnsL_ln ks h (by simp [cnt] at hz; omega) l hl
    · exact ⟨by decide, by decide⟩
  | .beside n ks, h, hz, l, hl => by
    simp only [lns, List.mem_cons, List.mem_append, List.not_mem_nil, or_false] at hl
    rcases hl with rfl | hl | rfl
    · exact hd_ln _ h hz
    · exact lnsL_ln ks h.2.2 (by simp [cnt] at hz; omega) l hl
    · exact ⟨by decide, by decide⟩
  | .again r t, h, hz, l, hl => by
    simp only [lns, List.mem_cons] at hl
    rcases hl with rfl | hl
    · exact hd_ln _ h hz
    · exact lns_ln t h.2 (by simp [cnt] at hz; omega) l hl
  | .grd w x t, h, hz, l, hl => by
    simp only [lns, List.mem_cons] at hl
    rcases hl with rfl | hl
    · exact hd_ln _ h hz
    · exact lns_ln t h.2 (by simp [cnt] at hz; omega) l hl
  | .nt t, h, hz, l, hl => by
    simp only [lns, List.mem_cons] at hl
    rcases hl with rfl | hl
    · exact hd_ln _ h hz
    · exact lns_ln t h (by simp [cnt] at hz; omega) l hl
  | .alw w t, h, hz, l, hl => by
    simp only [lns, List.mem_cons] at hl
    rcases hl with rfl | hl
    · exact hd_ln _ h hz
    · exact lns_ln t h (by simp [cnt] at hz; omega) l hl
theorem lnsL_ln : ∀ ks : List T, WfL ks → 2 * cntL ks ≤ 16777216 → ∀ l ∈ lnsL ks, Ln l
  | [], _, _, l, hl => by simp [lnsL] at hl
  | t :: r, h, hz, l, hl => by
    simp only [lnsL, List.mem_append] at hl
    simp only [cntL] at hz
    rcases hl with hl | hl
    · exact lns_ln t h.1 (by omega) l hl
    · exact lnsL_ln r h.2 (by omega) l hl
end
/-- the text of a tree -/
def text (t : T) : Str := Txt.join "\n" (lns t)
theorem sum_le : ∀ ls : List Str, (∀ l ∈ ls, Ln l) → (ls.map (·.length)).sum ≤ 2000 * ls.length
  | [], _ => by simp
  | l :: ls, h => by
    have h1 := (h l (List.mem_cons_self ..)).len
    have h2 := sum_le ls fun z hz => h z (List.mem_cons_of_mem _ hz)
    simp only [List.map_cons, List.sum_cons, List.length_cons]
    omega
theorem okL_join (s : Str) (hs : okL s = true) : ∀ ls : List Str, (∀ l ∈ ls, okL l = true) → okL (Str.join s ls) = true
  | [], _ => rfl
  | [x], h => h x (List.mem_cons_self ..)
  | x :: y :: r, h => by
    show okL (x ++ s ++ Str.join s (y :: r)) = true
    rw [okL_app, okL_app, h x (List.mem_cons_self ..), hs, okL_join s hs (y :: r) fun z hz => h z (List.mem_cons_of_mem _ hz)]
    rfl
theorem strs_strs : ∀ ls : List Str, strsOf (ls.map .str) = some ls
  | [] => rfl
  | l :: ls => by simp [strsOf, strs_strs ls]
theorem join_text {t : T} (h : Wf t) (hz : cnt t ≤ 4000) (m : Sto) (w : W) (hw : seqW w m = some ((lns t).map .str)) : joinW "\n" w m = some (.str (text t)) := by
  have h1 := sum_le (lns t) (lns_ln t h (by omega))
  have h2 := lns_cnt t
  simp only [joinW, hw, strs_strs]
  rw [if_pos]
  · rfl
  · have : (Str.ofString "\n").length = 1 := rfl
    rw [this]
    omega
theorem ok_text {t : T} (h : Wf t) (hz : cnt t ≤ 4000) : okL (text t) = true := by
  unfold text
  have e : Txt.join (Str.ofString "\n") (lns t) = Str.join (Str.ofString "\n") (lns t) := StrLaws.glued_eq_join _ _
  rw [e]
  exact okL_join _ (by decide) _ fun l hl => (lns_ln t h (by omega) l hl).ok
end Pl

namespace Pl
open PySem PySem.Spec PyProof.Rows L2 Sm
theorem cls_tw (t : T) : clsW (tw t) = some (tn t) := by
  cases t with
  | leaf d x => cases d <;> (unfold tw; rfl)
  | many d x => cases d <;> (unfold tw; rfl)
  | grd d x => cases d <;> (unfold tw; rfl)
  | _ => unfold tw; rfl
theorem tn_in (t : T) : Tt.contains (tn t) = true := by
  cases t with
  | leaf d x => cases d <;> rfl
  | many d x => cases d <;> rfl
  | grd d x => cases d <;> rfl
  | _ => rfl
theorem twL2 (a b : T) : [tw a, tw b] = twL [a, b] := rfl
theorem add_K {K : Nat} (hK : 4 ≤ K) {a b : T} (h : Sz [a, b]) (m : Sto) : opM Tt ((Sv K).m 0) (tw a) (tw b) m = .ok (tw (.many true false [a, b])) m := by
  obtain ⟨k, rfl⟩ : ∃ k, K = k + 3 + 1 := ⟨K - 4, by omega⟩
  simp only [opM, cls_tw, tn_in, Bool.and_self, if_true]
  rw [Sm___add__]
  have e := rowL_ok k h false m
  simp only [twL] at e
  simp (decide := true) only [runB, runI, bnd, lift, exS, sSeq, sSeqF, sNil, sSet, sSetN, sSetL, sIf, sRet, sRetN, sExp, sFor, sExt, sApp, sFrz, sPar, sPar3, sUnp, sSetIx, sBrk, sCnt, eVar, rVar, eC, op1, op2, eCall, eNew, aCons, aNil, aStar, eTup, eL, nLst, nRev, nLc, eBlt, eIf, eAnd, eOr, eNotV, tTru, tBl, tNt, tAn, tOrr, tYesM, truW, blW, eChain, iSeq, itW, iRng, bName, bTup, bAll, eMt, ePush, eJoin, jsW, e1M, e2M, sAug, sSup, sFldS, sTree, wipeS, lenW, tupleW, frzb, toW, clsO, eSl, oSome, oNone, Sm.ret, Sm.bad, List.map_cons, List.map_nil, List.length_cons, List.length_nil, List.cons_append, List.nil_append, List.append_nil, List.replicate_succ, List.replicate_zero, List.set_cons_succ, List.set_cons_zero, List.getElem?_cons_succ, List.getElem?_cons_zero, List.length_append, List.length_map, if_true, if_false, reduceIte, Bool.true_and, Bool.and_true, Bool.not_true, Bool.not_false, Option.map_some, Option.map_none, Option.bind_some, Option.bind_none, le_size, lt_size, Nat.reduceLeDiff, Nat.reduceAdd, Nat.reduceSub, Nat.reducePow, Nat.zero_add, decide_eq_true_eq, Nat.reduceLT, gt_iff_lt, ge_iff_le, decide_true, decide_false, Bool.false_eq_true, Bool.or_true, Bool.true_or, Bool.or_false, Bool.false_or, Bool.false_and, Bool.and_false, or_true, true_or, and_true, true_and, or_false, false_or, and_false, false_and, and_self, not_false_eq_true, not_true_eq_false, b_Tree___add__, N_Tree___add__, isi_tree, e]
theorem or_K {K : Nat} (hK : 4 ≤ K) {a b : T} (h : Sz [a, b]) (m : Sto) : opM Tt ((Sv K).m 1) (tw a) (tw b) m = .ok (tw (.many false false [a, b])) m := by
  obtain ⟨k, rfl⟩ : ∃ k, K = k + 3 + 1 := ⟨K - 4, by omega⟩
  simp only [opM, cls_tw, tn_in, Bool.and_self, if_true]
  rw [Sm___or__]
  have e := firstL_ok k h false m
  simp only [twL] at e
  simp (decide := true) only [runB, runI, bnd, lift, exS, sSeq, sSeqF, sNil, sSet, sSetN, sSetL, sIf, sRet, sRetN, sExp, sFor, sExt, sApp, sFrz, sPar, sPar3, sUnp, sSetIx, sBrk, sCnt, eVar, rVar, eC, op1, op2, eCall, eNew, aCons, aNil, aStar, eTup, eL, nLst, nRev, nLc, eBlt, eIf, eAnd, eOr, eNotV, tTru, tBl, tNt, tAn, tOrr, tYesM, truW, blW, eChain, iSeq, itW, iRng, bName, bTup, bAll, eMt, ePush, eJoin, jsW, e1M, e2M, sAug, sSup, sFldS, sTree, wipeS, lenW, tupleW, frzb, toW, clsO, eSl, oSome, oNone, Sm.ret, Sm.bad, List.map_cons, List.map_nil, List.length_cons, List.length_nil, List.cons_append, List.nil_append, List.append_nil, List.replicate_succ, List.replicate_zero, List.set_cons_succ, List.set_cons_zero, List.getElem?_cons_succ, List.getElem?_cons_zero, List.length_append, List.length_map, if_true, if_false, reduceIte, Bool.true_and, Bool.and_true, Bool.not_true, Bool.not_false, Option.map_some, Option.map_none, Option.bind_some, Option.bind_none, le_size, lt_size, Nat.reduceLeDiff, Nat.reduceAdd, Nat.reduceSub, Nat.reducePow, Nat.zero_add, decide_eq_true_eq, Nat.reduceLT, gt_iff_lt, ge_iff_le, decide_true, decide_false, Bool.false_eq_true, Bool.or_true, Bool.true_or, Bool.or_false, Bool.false_or, Bool.false_and, Bool.and_false, or_true, true_or, and_true, true_and, or_false, false_or, and_false, false_and, and_self, not_false_eq_true, not_true_eq_false, b_Tree___or__, N_Tree___or__, isi_tree, e]
theorem and_K {K : Nat} (hK : 4 ≤ K) {a b : T} (h : Sz [a, b]) (m : Sto) : opM Tt ((Sv K).m 2) (tw a) (tw b) m = .ok (tw (.beside 2 [a, b])) m := by
  obtain ⟨k, rfl⟩ : ∃ k, K = k + 3 + 1 := ⟨K - 4, by omega⟩
  simp only [opM, cls_tw, tn_in, Bool.and_self, if_true]
  rw [Sm___and__]
  have e := besideL_ok k h (n := 2) (by decide) (by simp) m
  simp only [twL] at e
  simp (decide := true) only [runB, runI, bnd, lift, exS, sSeq, sSeqF, sNil, sSet, sSetN, sSetL, sIf, sRet, sRetN, sExp, sFor, sExt, sApp, sFrz, sPar, sPar3, sUnp, sSetIx, sBrk, sCnt, eVar, rVar, eC, op1, op2, eCall, eNew, aCons, aNil, aStar, eTup, eL, nLst, nRev, nLc, eBlt, eIf, eAnd, eOr, eNotV, tTru, tBl, tNt, tAn, tOrr, tYesM, truW, blW, eChain, iSeq, itW, iRng, bName, bTup, bAll, eMt, ePush, eJoin, jsW, e1M, e2M, sAug, sSup, sFldS, sTree, wipeS, lenW, tupleW, frzb, toW, clsO, eSl, oSome, oNone, Sm.ret, Sm.bad, List.map_cons, List.map_nil, List.length_cons, List.length_nil, List.cons_append, List.nil_append, List.append_nil, List.replicate_succ, List.replicate_zero, List.set_cons_succ, List.set_cons_zero, List.getElem?_cons_succ, List.getElem?_cons_zero, List.length_append, List.length_map, if_true, if_false, reduceIte, Bool.true_and, Bool.and_true, Bool.not_true, Bool.not_false, Option.map_some, Option.map_none, Option.bind_some, Option.bind_none, le_size, lt_size, Nat.reduceLeDiff, Nat.reduceAdd, Nat.reduceSub, Nat.reducePow, Nat.zero_add, decide_eq_true_eq, Nat.reduceLT, gt_iff_lt, ge_iff_le, decide_true, decide_false, Bool.false_eq_true, Bool.or_true, Bool.true_or, Bool.or_false, Bool.false_or, Bool.false_and, Bool.and_false, or_true, true_or, and_true, true_and, or_false, false_or, and_false, false_and, and_self, not_false_eq_true, not_true_eq_false, b_Tree___and__, N_Tree___and__, isi_tree, e]
theorem mul_K {K : Nat} (hK : 4 ≤ K) {a : T} (h : Sz [a]) {c : Int} (h1 : 1 ≤ c) (h2 : c ≤ 1000) (m : Sto) : opMI Tt ((Sv K).m 3) (tw a) (.int c) m = .ok (tw (.again (some c) a)) m := by
  obtain ⟨k, rfl⟩ : ∃ k, K = k + 3 + 1 := ⟨K - 4, by omega⟩
  simp only [opMI, cls_tw, tn_in, if_true]
  rw [Sm___mul__]
  have e := again_ok k h (r := some c) (fun i hi => by cases hi; omega) m
  have h3 : ¬ c < 1 := by omega
  simp only [opI] at e
  simp (decide := true) only [runB, runI, bnd, lift, exS, sSeq, sSeqF, sNil, sSet, sSetN, sSetL, sIf, sRet, sRetN, sExp, sFor, sExt, sApp, sFrz, sPar, sPar3, sUnp, sSetIx, sBrk, sCnt, eVar, rVar, eC, op1, op2, eCall, eNew, aCons, aNil, aStar, eTup, eL, nLst, nRev, nLc, eBlt, eIf, eAnd, eOr, eNotV, tTru, tBl, tNt, tAn, tOrr, tYesM, truW, blW, eChain, iSeq, itW, iRng, bName, bTup, bAll, eMt, ePush, eJoin, jsW, e1M, e2M, sAug, sSup, sFldS, sTree, wipeS, lenW, tupleW, frzb, toW, clsO, eSl, oSome, oNone, Sm.ret, Sm.bad, List.map_cons, List.map_nil, List.length_cons, List.length_nil, List.cons_append, List.nil_append, List.append_nil, List.replicate_succ, List.replicate_zero, List.set_cons_succ, List.set_cons_zero, List.getElem?_cons_succ, List.getElem?_cons_zero, List.length_append, List.length_map, if_true, if_false, reduceIte, Bool.true_and, Bool.and_true, Bool.not_true, Bool.not_false, Option.map_some, Option.map_none, Option.bind_some, Option.bind_none, le_size, lt_size, Nat.reduceLeDiff, Nat.reduceAdd, Nat.reduceSub, Nat.reducePow, Nat.zero_add, decide_eq_true_eq, Nat.reduceLT, gt_iff_lt, ge_iff_le, decide_true, decide_false, Bool.false_eq_true, Bool.or_true, Bool.true_or, Bool.or_false, Bool.false_or, Bool.false_and, Bool.and_false, or_true, true_or, and_true, true_and, or_false, false_or, and_false, false_and, and_self, not_false_eq_true, not_true_eq_false, b_Tree___mul__, N_Tree___mul__, is_int_ok (k + 2), lt_int, h3, e]
theorem inv_K {K : Nat} (hK : 4 ≤ K) {a : T} (h : Sz [a]) (m : Sto) : op1M Tt ((Sv K).m 4) (tw a) m = .ok (tw (.nt a)) m := by
  obtain ⟨k, rfl⟩ : ∃ k, K = k + 3 + 1 := ⟨K - 4, by omega⟩
  simp only [op1M, cls_tw, tn_in, if_true]
  rw [Sm___invert__]
  have e := not_ok k h m
  simp (decide := true) only [runB, runI, bnd, lift, exS, sSeq, sSeqF, sNil, sSet, sSetN, sSetL, sIf, sRet, sRetN, sExp, sFor, sExt, sApp, sFrz, sPar, sPar3, sUnp, sSetIx, sBrk, sCnt, eVar, rVar, eC, op1, op2, eCall, eNew, aCons, aNil, aStar, eTup, eL, nLst, nRev, nLc, eBlt, eIf, eAnd, eOr, eNotV, tTru, tBl, tNt, tAn, tOrr, tYesM, truW, blW, eChain, iSeq, itW, iRng, bName, bTup, bAll, eMt, ePush, eJoin, jsW, e1M, e2M, sAug, sSup, sFldS, sTree, wipeS, lenW, tupleW, frzb, toW, clsO, eSl, oSome, oNone, Sm.ret, Sm.bad, List.map_cons, List.map_nil, List.length_cons, List.length_nil, List.cons_append, List.nil_append, List.append_nil, List.replicate_succ, List.replicate_zero, List.set_cons_succ, List.set_cons_zero, List.getElem?_cons_succ, List.getElem?_cons_zero, List.length_append, List.length_map, if_true, if_false, reduceIte, Bool.true_and, Bool.and_true, Bool.not_true, Bool.not_false, Option.map_some, Option.map_none, Option.bind_some, Option.bind_none, le_size, lt_size, Nat.reduceLeDiff, Nat.reduceAdd, Nat.reduceSub, Nat.reducePow, Nat.zero_add, decide_eq_true_eq, Nat.reduceLT, gt_iff_lt, ge_iff_le, decide_true, decide_false, Bool.false_eq_true, Bool.or_true, Bool.true_or, Bool.or_false, Bool.false_or, Bool.false_and, Bool.and_false, or_true, true_or, and_true, true_and, or_false, false_or, and_false, false_and, and_self, not_false_eq_true, not_true_eq_false, b_Tree___invert__, N_Tree___invert__, e]
theorem toDs_str : ∀ ls : List Str, toDs (ls.map .str) = some (ls.map .str)
  | [] => rfl
  | l :: ls => by simp [toDs, toD, toDs_str ls]
theorem lay_str : ∀ ls : List Str, (∀ l ∈ ls, okL l = true) → PyData.canLayAll0 (ls.map PyData.str) = true
  | [], _ => rfl
  | l :: ls, h => by
    simp [PyData.canLayAll0, PyData.canLay0, okL_ok (h l (List.mem_cons_self ..)), lay_str ls fun z hz => h z (List.mem_cons_of_mem _ hz)]
theorem depth_str : ∀ ls : List Str, PyData.depthAll (ls.map PyData.str) ≤ 1
  | [] => by simp [PyData.depthAll]
  | l :: ls => by have := depth_str ls; simp [PyData.depthAll, PyData.depth]; omega
theorem eqv_strs : ∀ ls : List Str, PyData.eqvAll (ls.map PyData.str) (ls.map PyData.str) = true
  | [] => rfl
  | l :: ls => by simp [PyData.eqvAll, PyData.eqv, eqv_strs ls]
theorem eq_lw {ls : List Str} (h : ∀ l ∈ ls, okL l = true) (m : Sto) : eqW (lw ls) (lw ls) m = some (.bl true) := by
  have h1 := lay_str ls h
  have h2 := depth_str ls
  have h3 : 1 + PyData.depthAll (List.map PyData.str ls) ≤ 64 := by omega
  simp [eqW, eqB, deref, lw, toD, toDs_str, SeqAt.shaped, PyData.canLay0, PyData.depth, PyData.eqv, eqv_strs, h1]
  omega
theorem ne_lst {ls : List Str} (h : ∀ l ∈ ls, okL l = true) (m : Sto) : neW (.lst (ls.map .str)) (.lst (ls.map .str)) m = some (.bl false) := by
  have h1 := lay_str ls h
  have h2 := depth_str ls
  have h3 : 1 + PyData.depthAll (List.map PyData.str ls) ≤ 64 := by omega
  simp [neW, eqB, deref, toD, toDs_str, SeqAt.shaped, PyData.canLay0, PyData.depth, PyData.eqv, eqv_strs, h1]
  omega
theorem ne_str {a : Str} (h : okL a = true) (m : Sto) : neW (.str a) (.str a) m = some (.bl false) := by
  simp [neW, eqB, deref, toD, SeqAt.shaped, PyData.canLay0, PyData.depth, PyData.eqv, okL_ok h]
theorem ne_int (i : Int) (m : Sto) : neW (.int i) (.int i) m = some (.bl false) := by
  simp [neW, eqB, deref, toD, SeqAt.shaped, PyData.canLay0, PyData.depth, PyData.eqv]
/-- a tree of the law -/
structure Gd (t : T) : Prop where
  wf : Wf t
  c : cnt t ≤ 4000
theorem Gd.z {t : T} (h : Gd t) : 2 * cnt t ≤ 16777216 := by have := h.c; omega
theorem eq_K {K : Nat} (hK : 1 ≤ K) {a : T} (h : Gd a) (m : Sto) : opM Tt ((Sv K).m 5) (tw a) (tw a) m = .ok (.bl true) m := by
  obtain ⟨k, rfl⟩ : ∃ k, K = k + 1 := ⟨K - 1, by omega⟩
  simp only [opM, cls_tw, tn_in, Bool.and_self, if_true]
  rw [Sm___eq__]
  simp (decide := true) only [runB, runI, bnd, lift, exS, sSeq, sSeqF, sNil, sSet, sSetN, sSetL, sIf, sRet, sRetN, sExp, sFor, sExt, sApp, sFrz, sPar, sPar3, sUnp, sSetIx, sBrk, sCnt, eVar, rVar, eC, op1, op2, eCall, eNew, aCons, aNil, aStar, eTup, eL, nLst, nRev, nLc, eBlt, eIf, eAnd, eOr, eNotV, tTru, tBl, tNt, tAn, tOrr, tYesM, truW, blW, eChain, iSeq, itW, iRng, bName, bTup, bAll, eMt, ePush, eJoin, jsW, e1M, e2M, sAug, sSup, sFldS, sTree, wipeS, lenW, tupleW, frzb, toW, clsO, eSl, oSome, oNone, Sm.ret, Sm.bad, List.map_cons, List.map_nil, List.length_cons, List.length_nil, List.cons_append, List.nil_append, List.append_nil, List.replicate_succ, List.replicate_zero, List.set_cons_succ, List.set_cons_zero, List.getElem?_cons_succ, List.getElem?_cons_zero, List.length_append, List.length_map, if_true, if_false, reduceIte, Bool.true_and, Bool.and_true, Bool.not_true, Bool.not_false, Option.map_some, Option.map_none, Option.bind_some, Option.bind_none, le_size, lt_size, Nat.reduceLeDiff, Nat.reduceAdd, Nat.reduceSub, Nat.reducePow, Nat.zero_add, decide_eq_true_eq, Nat.reduceLT, gt_iff_lt, ge_iff_le, decide_true, decide_false, Bool.false_eq_true, Bool.or_true, Bool.true_or, Bool.or_false, Bool.false_or, Bool.false_and, Bool.and_false, or_true, true_or, and_true, true_and, or_false, false_or, and_false, false_and, and_self, not_false_eq_true, not_true_eq_false, b_Tree___eq__, N_Tree___eq__, isi_tree, fld_script, eq_lw fun l hl => (lns_ln a h.wf h.z l hl).ok]
theorem str_K {K : Nat} (hK : 1 ≤ K) {a : T} (h : Gd a) (m : Sto) : strM Tt ((Sv K).m 6) (tw a) m = .ok (.str (text a)) m := by
  obtain ⟨k, rfl⟩ : ∃ k, K = k + 1 := ⟨K - 1, by omega⟩
  have e := join_text h.wf h.c m (lw (lns a)) rfl
  have e2 : runB N_Tree___str__.length (b_Tree___str__ (Sv k)) [tw a] m = .ok (.str (text a)) m := by
    simp (decide := true) only [runB, runI, bnd, lift, exS, sSeq, sSeqF, sNil, sSet, sSetN, sSetL, sIf, sRet, sRetN, sExp, sFor, sExt, sApp, sFrz, sPar, sPar3, sUnp, sSetIx, sBrk, sCnt, eVar, rVar, eC, op1, op2, eCall, eNew, aCons, aNil, aStar, eTup, eL, nLst, nRev, nLc, eBlt, eIf, eAnd, eOr, eNotV, tTru, tBl, tNt, tAn, tOrr, tYesM, truW, blW, eChain, iSeq, itW, iRng, bName, bTup, bAll, eMt, ePush, eJoin, jsW, e1M, e2M, sAug, sSup, sFldS, sTree, wipeS, lenW, tupleW, frzb, toW, clsO, eSl, oSome, oNone, Sm.ret, Sm.bad, List.map_cons, List.map_nil, List.length_cons, List.length_nil, List.cons_append, List.nil_append, List.append_nil, List.replicate_succ, List.replicate_zero, List.set_cons_succ, List.set_cons_zero, List.getElem?_cons_succ, List.getElem?_cons_zero, List.length_append, List.length_map, if_true, if_false, reduceIte, Bool.true_and, Bool.and_true, Bool.not_true, Bool.not_false, Option.map_some, Option.map_none, Option.bind_some, Option.bind_none, le_size, lt_size, Nat.reduceLeDiff, Nat.reduceAdd, Nat.reduceSub, Nat.reducePow, Nat.zero_add, decide_eq_true_eq, Nat.reduceLT, gt_iff_lt, ge_iff_le, decide_true, decide_false, Bool.false_eq_true, Bool.or_true, Bool.true_or, Bool.or_false, Bool.false_or, Bool.false_and, Bool.and_false, or_true, true_or, and_true, true_and, or_false, false_or, and_false, false_and, and_self, not_false_eq_true, not_true_eq_false, b_Tree___str__, N_Tree___str__, fld_script, e]
  simp only [strM, cls_tw, tn_in, if_true]
  rw [Sm___str__, e2]
end Pl

namespace Pl
open PySem PySem.Spec PyProof.Rows L2 Sm
/-! ### nodes, and another tree in the place of one -/
mutual
def nds : T → List T
  | .leaf d x => [.leaf d x]
  | .many r k ks => .many r k ks :: ndsL ks
  | .beside n ks => .beside n ks :: ndsL ks
  | .again r t => .again r t :: nds t
  | .grd w x t => .grd w x t :: nds t
  | .nt t => .nt t :: nds t
  | .alw w t => .alw w t :: nds t
def ndsL : List T → List T
  | [] => []
  | t :: r => nds t ++ ndsL r
end
theorem nds_eq (t : T) : nds t = t :: ndsL (kids t) := by
  cases t <;> simp [nds, kids, ndsL]
mutual
def putT : T → Nat → T → T
  | .leaf d x, 0, o => o
  | .leaf d x, _ + 1, _ => .leaf d x
  | .many r k ks, 0, o => o
  | .many r k ks, i + 1, o => .many r k (putL ks i o)
  | .beside n ks, 0, o => o
  | .beside n ks, i + 1, o => .beside n (putL ks i o)
  | .again r t, 0, o => o
  | .again r t, i + 1, o => .again r (putT t i o)
  | .grd w x t, 0, o => o
  | .grd w x t, i + 1, o => .grd w x (putT t i o)
  | .nt t, 0, o => o
  | .nt t, i + 1, o => .nt (putT t i o)
  | .alw w t, 0, o => o
  | .alw w t, i + 1, o => .alw w (putT t i o)
def putL : List T → Nat → T → List T
  | [], _, _ => []
  | k :: ks, i, o => if i < cnt k then putT k i o :: ks else k :: putL ks (i - cnt k) o
end
theorem putT_0 (t o : T) : putT t 0 o = o := by cases t <;> rfl
/-- the same node with other parts -/
def re : T → List T → T
  | .leaf d x, _ => .leaf d x
  | .many r k _, ks => .many r k ks
  | .beside n _, ks => .beside n ks
  | .again r t, ks => .again r (ks.headD t)
  | .grd w x t, ks => .grd w x (ks.headD t)
  | .nt t, ks => .nt (ks.headD t)
  | .alw w t, ks => .alw w (ks.headD t)
theorem cnt_pos (t : T) : 1 ≤ cnt t := by cases t <;> simp [cnt]
theorem putT_S (t : T) (i : Nat) (o : T) (h : i + 1 < cnt t) : putT t (i + 1) o = re t (putL (kids t) i o) := by
  cases t with
  | leaf d x => simp [cnt] at h
  | many r k ks => rfl
  | beside n ks => rfl
  | again r t => simp [cnt] at h; simp [putT, kids, putL, h, re]
  | grd w x t => simp [cnt] at h; simp [putT, kids, putL, h, re]
  | nt t => simp [cnt] at h; simp [putT, kids, putL, h, re]
  | alw w t => simp [cnt] at h; simp [putT, kids, putL, h, re]
theorem kids_re (t : T) (ks : List T) (h : ks.length = (kids t).length) : kids (re t ks) = ks := by
  cases t <;> simp only [kids, re, List.length_cons, List.length_nil] at h ⊢
  · exact (List.length_eq_zero_iff.mp h).symm
  all_goals
    match ks, h with
    | [a], _ => rfl
theorem putL_len : ∀ (ks : List T) (i : Nat) (o : T), (putL ks i o).length = ks.length
  | [], i, o => rfl
  | k :: ks, i, o => by
    unfold putL
    split
    · rfl
    · simp [putL_len ks]
mutual
theorem nds_len : ∀ t : T, (nds t).length = cnt t
  | .leaf d x => by simp [nds, cnt]
  | .many r k ks => by simp [nds, cnt, ndsL_len ks]
  | .beside n ks => by simp [nds, cnt, ndsL_len ks]
  | .again r t => by simp [nds, cnt, nds_len t]
  | .grd w x t => by simp [nds, cnt, nds_len t]
  | .nt t => by simp [nds, cnt, nds_len t]
  | .alw w t => by simp [nds, cnt, nds_len t]
theorem ndsL_len : ∀ ks : List T, (ndsL ks).length = cntL ks
  | [] => by simp [ndsL, cntL]
  | t :: r => by simp [ndsL, cntL, nds_len t, ndsL_len r]
end
/-- what stands ahead and behind -/
structure Shp (N N' : List T) (i : Nat) (o s : T) (pre pre' post : List T) : Prop where
  a : N = pre ++ (nds s ++ post)
  b : pre.length = i
  c : N' = pre' ++ (nds o ++ post)
  d : pre'.length = i
  e : ∀ (k : Nat) (u : T), pre[k]? = some u → k + cnt u ≤ i → pre'[k]? = some u
theorem Shp.cons {N N' : List T} {i : Nat} {o s : T} {pre pre' post : List T} (h : Shp N N' i o s pre pre' post) (t t' : T) (ht : i + 1 < cnt t ∨ i + 1 < 1 + cnt t) (hc : i + 1 < cnt t) : Shp (t :: N) (t' :: N') (i + 1) o s (t :: pre) (t' :: pre') post := by
  refine ⟨by rw [h.a]; rfl, by simp [h.b], by rw [h.c]; rfl, by simp [h.d], fun k u e1 e2 => ?_⟩
  cases k with
  | zero =>
    cases e1
    omega
  | succ k =>
    simp only [List.getElem?_cons_succ] at e1 ⊢
    exact h.e k u e1 (by omega)
mutual
theorem shp : ∀ (t : T) (i : Nat) (o : T), i < cnt t → ∃ s pre pre' post, Shp (nds t) (nds (putT t i o)) i o s pre pre' post
  | t, 0, o, h => ⟨t, [], [], [], by simp, rfl, by simp [putT_0], rfl, by simp⟩
  | .leaf d x, i + 1, o, h => by simp [cnt] at h
  | .many r k ks, i + 1, o, h => by
    obtain ⟨s, pre, pre', post, q⟩ := shpL ks i o (by simp [cnt] at h; omega)
    exact ⟨s, _, _, post, by simpa [nds, putT] using q.cons (.many r k ks) (.many r k (putL ks i o)) (.inl h) h⟩
  | .beside n ks, i + 1, o, h => by
    obtain ⟨s, pre, pre', post, q⟩ := shpL ks i o (by simp [cnt] at h; omega)
    exact ⟨s, _, _, post, by simpa [nds, putT] using q.cons (.beside n ks) (.beside n (putL ks i o)) (.inl h) h⟩
  | .again r t, i + 1, o, h => by
    obtain ⟨s, pre, pre', post, q⟩ := shp t i o (by simp [cnt] at h; omega)
    exact ⟨s, _, _, post, by simpa [nds, putT] using q.cons (.again r t) (.again r (putT t i o)) (.inl h) h⟩
  | .grd w x t, i + 1, o, h => by
    obtain ⟨s, pre, pre', post, q⟩ := shp t i o (by simp [cnt] at h; omega)
    exact ⟨s, _, _, post, by simpa [nds, putT] using q.cons (.grd w x t) (.grd w x (putT t i o)) (.inl h) h⟩
  | .nt t, i + 1, o, h => by
    obtain ⟨s, pre, pre', post, q⟩ := shp t i o (by simp [cnt] at h; omega)
    exact ⟨s, _, _, post, by simpa [nds, putT] using q.cons (.nt t) (.nt (putT t i o)) (.inl h) h⟩
  | .alw w t, i + 1, o, h => by
    obtain ⟨s, pre, pre', post, q⟩ := shp t i o (by simp [cnt] at h; omega)
    exact ⟨s, _, _, post, by simpa [nds, putT] using q.cons (.alw w t) (.alw w (putT t i o)) (.inl h) h⟩
theorem shpL : ∀ (ks : List T) (i : Nat) (o : T), i < cntL ks → ∃ s pre pre' post, Shp (ndsL ks) (ndsL (putL ks i o)) i o s pre pre' post
  | [], i, o, h => by simp [cntL] at h
  | k :: ks, i, o, h => by
    by_cases hk : i < cnt k
    · obtain ⟨s, pre, pre', post, q⟩ := shp k i o hk
      refine ⟨s, pre, pre', post ++ ndsL ks, ?_, q.b, ?_, q.d, q.e⟩
      · simp [ndsL, q.a]
      · simp [putL, hk, ndsL, q.c]
    · obtain ⟨s, pre, pre', post, q⟩ := shpL ks (i - cnt k) o (by simp [cntL] at h; omega)
      have hl := nds_len k
      refine ⟨s, nds k ++ pre, nds k ++ pre', post, ?_, ?_, ?_, ?_, fun z u e1 e2 => ?_⟩
      · simp [ndsL, q.a]
      · simp [q.b, hl]; omega
      · simp [putL, hk, ndsL, q.c]
      · simp [q.d, hl]; omega
      · by_cases hz : z < cnt k
        · rw [List.getElem?_append_left (by omega)] at e1 ⊢
          exact e1
        · rw [List.getElem?_append_right (by omega)] at e1 ⊢
          exact q.e _ u e1 (by omega)
end
end Pl

namespace Pl
open PySem PySem.Spec PyProof.Rows L2 Sm
/-! ### laws of put -/
theorem nds_head (s : T) : (nds s)[0]? = some s := by rw [nds_eq]; rfl
section
variable {N N' : List T} {i : Nat} {o s : T} {pre pre' post : List T} (h : Shp N N' i o s pre pre' post)
include h
theorem Shp.at_ : N[i]? = some s := by
  rw [h.a, List.getElem?_append_right (by rw [h.b]; omega), h.b, Nat.sub_self, List.getElem?_append_left (by rw [nds_len]; exact cnt_pos s)]
  exact nds_head s
theorem Shp.at' : N'[i]? = some o := by
  rw [h.c, List.getElem?_append_right (by rw [h.d]; omega), h.d, Nat.sub_self, List.getElem?_append_left (by rw [nds_len]; exact cnt_pos o)]
  exact nds_head o
theorem Shp.len : N'.length + cnt s = N.length + cnt o := by
  rw [h.a, h.c]
  simp only [List.length_append, nds_len, h.b, h.d]
  omega
theorem Shp.len1 : i + cnt s ≤ N.length := by
  rw [h.a]
  simp only [List.length_append, nds_len, h.b]
  omega
theorem Shp.lo {k : Nat} {u : T} (hk : k < i) (e : N[k]? = some u) (hu : k + cnt u ≤ i) : N'[k]? = some u := by
  rw [h.a, List.getElem?_append_left (by rw [h.b]; exact hk)] at e
  rw [h.c, List.getElem?_append_left (by rw [h.d]; exact hk)]
  exact h.e k u e hu
theorem Shp.hi (k : Nat) : N'[i + cnt o + k]? = N[i + cnt s + k]? := by
  have key : ∀ (p : List T) (q : T), p.length = i → (p ++ (nds q ++ post))[i + cnt q + k]? = post[k]? := fun p q hp => by
    rw [List.getElem?_append_right (by omega), List.getElem?_append_right (by rw [nds_len]; omega), nds_len, hp]
    congr 1
    omega
  rw [h.a, h.c, key pre' o h.d, key pre s h.b]
end
theorem cntL_put {ks : List T} {i : Nat} {o s : T} (hs : (ndsL ks)[i]? = some s) : cntL (putL ks i o) + cnt s = cntL ks + cnt o := by
  have hi : i < cntL ks := by rw [← ndsL_len]; exact (List.getElem?_eq_some_iff.mp hs).1
  obtain ⟨s', pre, pre', post, q⟩ := shpL ks i o hi
  have e := q.at_
  rw [hs] at e
  cases e
  have := q.len
  rw [ndsL_len, ndsL_len] at this
  exact this
theorem cnt_put {t : T} {i : Nat} {o s : T} (hs : (nds t)[i]? = some s) : cnt (putT t i o) + cnt s = cnt t + cnt o := by
  have hi : i < cnt t := by rw [← nds_len]; exact (List.getElem?_eq_some_iff.mp hs).1
  obtain ⟨s', pre, pre', post, q⟩ := shp t i o hi
  have e := q.at_
  rw [hs] at e
  cases e
  have := q.len
  rw [nds_len, nds_len] at this
  exact this
theorem fits {t : T} {i : Nat} {s : T} (hs : (nds t)[i]? = some s) : i + cnt s ≤ cnt t := by
  have hi : i < cnt t := by rw [← nds_len]; exact (List.getElem?_eq_some_iff.mp hs).1
  obtain ⟨s', pre, pre', post, q⟩ := shp t i s hi
  have e := q.at_
  rw [hs] at e
  cases e
  have := q.len1
  rwa [nds_len] at this
theorem fitsL {ks : List T} {i : Nat} {s : T} (hs : (ndsL ks)[i]? = some s) : i + cnt s ≤ cntL ks := by
  have hi : i < cntL ks := by rw [← ndsL_len]; exact (List.getElem?_eq_some_iff.mp hs).1
  obtain ⟨s', pre, pre', post, q⟩ := shpL ks i s hi
  have e := q.at_
  rw [hs] at e
  cases e
  have := q.len1
  rwa [ndsL_len] at this
mutual
/-- put back it is the tree -/
theorem put_back : ∀ (t : T) (i : Nat) (o s : T), (nds t)[i]? = some s → putT (putT t i o) i s = t
  | t, 0, o, s, h => by
    rw [nds_head] at h
    cases h
    rw [putT_0]
  | .leaf d x, i + 1, o, s, h => by simp [nds] at h
  | .many r k ks, i + 1, o, s, h => by
    simp only [nds, List.getElem?_cons_succ] at h
    simp [putT, put_backL ks i o s h]
  | .beside n ks, i + 1, o, s, h => by
    simp only [nds, List.getElem?_cons_succ] at h
    simp [putT, put_backL ks i o s h]
  | .again r t, i + 1, o, s, h => by
    simp only [nds, List.getElem?_cons_succ] at h
    simp [putT, put_back t i o s h]
  | .grd w x t, i + 1, o, s, h => by
    simp only [nds, List.getElem?_cons_succ] at h
    simp [putT, put_back t i o s h]
  | .nt t, i + 1, o, s, h => by
    simp only [nds, List.getElem?_cons_succ] at h
    simp [putT, put_back t i o s h]
  | .alw w t, i + 1, o, s, h => by
    simp only [nds, List.getElem?_cons_succ] at h
    simp [putT, put_back t i o s h]
theorem put_backL : ∀ (ks : List T) (i : Nat) (o s : T), (ndsL ks)[i]? = some s → putL (putL ks i o) i s = ks
  | [], i, o, s, h => by simp [ndsL] at h
  | k :: ks, i, o, s, h => by
    by_cases hk : i < cnt k
    · simp only [ndsL] at h
      rw [List.getElem?_append_left (by rw [nds_len]; exact hk)] at h
      have hc := cnt_put (o := o) h
      have hf := fits h
      have hp := cnt_pos o
      have e : putL (k :: ks) i o = putT k i o :: ks := by simp [putL, hk]
      rw [e]
      simp only [putL]
      rw [if_pos (by omega), put_back k i o s h]
    · simp only [ndsL] at h
      rw [List.getElem?_append_right (by rw [nds_len]; omega), nds_len] at h
      have e : putL (k :: ks) i o = k :: putL ks (i - cnt k) o := by simp [putL, hk]
      rw [e]
      simp only [putL]
      rw [if_neg hk, put_backL ks _ o s h]
end
mutual
/-- at two places apart, in either order -/
theorem put_comm : ∀ (t : T) (i j : Nat) (a b s : T), (nds t)[i]? = some s → i + cnt s ≤ j → j < cnt t → putT (putT t j b) i a = putT (putT t i a) (j + cnt a - cnt s) b
  | t, 0, j, a, b, s, h, h1, h2 => by
    rw [nds_head] at h
    cases h
    omega
  | .leaf d x, i + 1, j, a, b, s, h, h1, h2 => by simp [nds] at h
  | .many r k ks, i + 1, j, a, b, s, h, h1, h2 => by
    simp only [nds, List.getElem?_cons_succ] at h
    simp only [cnt] at h2
    have hp := cnt_pos s
    obtain ⟨j', rfl⟩ : ∃ j', j = j' + 1 := ⟨j - 1, by omega⟩
    rw [show j' + 1 + cnt a - cnt s = (j' + cnt a - cnt s) + 1 by omega]
    simp [putT, put_commL ks i j' a b s h (by omega) (by omega)]
  | .beside n ks, i + 1, j, a, b, s, h, h1, h2 => by
    simp only [nds, List.getElem?_cons_succ] at h
    simp only [cnt] at h2
    have hp := cnt_pos s
    obtain ⟨j', rfl⟩ : ∃ j', j = j' + 1 := ⟨j - 1, by omega⟩
    rw [show j' + 1 + cnt a - cnt s = (j' + cnt a - cnt s) + 1 by omega]
    simp [putT, put_commL ks i j' a b s h (by omega) (by omega)]
  | .again r t, i + 1, j, a, b, s, h, h1, h2 => by
    simp only [nds, List.getElem?_cons_succ] at h
    simp only [cnt] at h2
    have hp := cnt_pos s
    obtain ⟨j', rfl⟩ : ∃ j', j = j' + 1 := ⟨j - 1, by omega⟩
    rw [show j' + 1 + cnt a - cnt s = (j' + cnt a - cnt s) + 1 by omega]
    simp [putT, put_comm t i j' a b s h (by omega) (by omega)]
  | .grd w x t, i + 1, j, a, b, s, h, h1, h2 => by
    simp only [nds, List.getElem?_cons_succ] at h
    simp only [cnt] at h2
    have hp := cnt_pos s
    obtain ⟨j', rfl⟩ : ∃ j', j = j' + 1 := ⟨j - 1, by omega⟩
    rw [show j' + 1 + cnt a - cnt s = (j' + cnt a - cnt s) + 1 by omega]
    simp [putT, put_comm t i j' a b s h (by omega) (by omega)]
  | .nt t, i + 1, j, a, b, s, h, h1, h2 => by
    simp only [nds, List.getElem?_cons_succ] at h
    simp only [cnt] at h2
    have hp := cnt_pos s
    obtain ⟨j', rfl⟩ : ∃ j', j = j' + 1 := ⟨j - 1, by omega⟩
    rw [show j' + 1 + cnt a - cnt s = (j' + cnt a - cnt s) + 1 by omega]
    simp [putT, put_comm t i j' a b s h (by omega) (by omega)]
  | .alw w t, i + 1, j, a, b, s, h, h1, h2 => by
    simp only [nds, List.getElem?_cons_succ] at h
    simp only [cnt] at h2
    have hp := cnt_pos s
    obtain ⟨j', rfl⟩ : ∃ j', j = j' + 1 := ⟨j - 1, by omega⟩
    rw [show j' + 1 + cnt a - cnt s = (j' + cnt a - cnt s) + 1 by omega]
    simp [putT, put_comm t i j' a b s h (by omega) (by omega)]
theorem put_commL : ∀ (ks : List T) (i j : Nat) (a b s : T), (ndsL ks)[i]? = some s → i + cnt s ≤ j → j < cntL ks → putL (putL ks j b) i a = putL (putL ks i a) (j + cnt a - cnt s) b
  | [], i, j, a, b, s, h, h1, h2 => by simp [ndsL] at h
  | k :: ks, i, j, a, b, s, h, h1, h2 => by
    simp only [ndsL] at h
    simp only [cntL] at h2
    have hp := cnt_pos s
    have hpa := cnt_pos a
    have hpb := cnt_pos b
    by_cases hk : i < cnt k
    · rw [List.getElem?_append_left (by rw [nds_len]; exact hk)] at h
      have hca := cnt_put (o := a) h
      have hf := fits h
      by_cases hj : j < cnt k
      · have hj2 : ∃ s2, (nds k)[j]? = some s2 := ⟨(nds k)[j]'(by rw [nds_len]; exact hj), by simp [nds_len, hj]⟩
        obtain ⟨s2, hs2⟩ := hj2
        have hcb := cnt_put (o := b) hs2
        have hf2 := fits hs2
        simp only [putL, hk, hj, if_true]
        rw [if_pos (show i < cnt (putT k j b) by omega), if_pos (show j + cnt a - cnt s < cnt (putT k i a) by omega), put_comm k i j a b s h h1 hj]
      · simp only [putL, hk, hj, if_true, if_false]
        rw [if_neg (show ¬ j + cnt a - cnt s < cnt (putT k i a) by omega)]
        congr 2
        omega
    · rw [List.getElem?_append_right (by rw [nds_len]; omega), nds_len] at h
      have hj : ¬ j < cnt k := by omega
      have hf := fitsL h
      simp only [putL, hk, hj, if_false]
      rw [if_neg (show ¬ j + cnt a - cnt s < cnt k by omega), put_commL ks (i - cnt k) (j - cnt k) a b s h (by omega) (by omega)]
      congr 2
      omega
end
end Pl

namespace Pl
open PySem PySem.Spec PyProof.Rows L2 Sm
theorem fld_nodes0 (t : T) (m : Sto) : fldW Tx.ats "nodes" (tw t) m = some (.tup (nodesT (tw t))) := by
  cases t with
  | leaf d x => cases d <;> (unfold tw; simp only [nodesT]; rfl)
  | many d x => cases d <;> (unfold tw; simp only [nodesT]; rfl)
  | grd d x => cases d <;> (unfold tw; simp only [nodesT]; rfl)
  | _ => unfold tw; simp only [nodesT]; rfl
mutual
theorem nodes_tw : ∀ t : T, nodesT (tw t) = (nds t).map tw
  | .leaf true x => by simp [tw, nodesT, nodesL, nds]
  | .leaf false x => by simp [tw, nodesT, nodesL, nds]
  | .many true k ks => by
    have e : tw (.many true k ks) = tw (.many true k ks) := rfl
    simp [nds, ← nodesL_tw ks]
    simp [tw, nodesT]
  | .many false k ks => by
    simp [nds, ← nodesL_tw ks]
    simp [tw, nodesT]
  | .beside n ks => by
    simp [nds, ← nodesL_tw ks]
    simp [tw, nodesT]
  | .again r t => by
    simp [nds, ← nodes_tw t]
    simp [tw, nodesT, nodesL]
  | .grd true x t => by
    simp [nds, ← nodes_tw t]
    simp [tw, nodesT, nodesL]
  | .grd false x t => by
    simp [nds, ← nodes_tw t]
    simp [tw, nodesT, nodesL]
  | .nt t => by
    simp [nds, ← nodes_tw t]
    simp [tw, nodesT, nodesL]
  | .alw w t => by
    simp [nds, ← nodes_tw t]
    simp [tw, nodesT, nodesL]
theorem nodesL_tw : ∀ ks : List T, nodesL (twL ks) = (ndsL ks).map tw
  | [] => by simp [twL, nodesL, ndsL]
  | t :: r => by simp [twL, nodesL, ndsL, nodes_tw t, nodesL_tw r]
end
theorem fld_nodes (t : T) (m : Sto) : fldW Tx.ats "nodes" (tw t) m = some (.tup ((nds t).map tw)) := by rw [fld_nodes0, nodes_tw]
theorem fld_blocks (t : T) (m : Sto) : fldW Tx.ats "blocks" (tw t) m = some (.tup (twL (kids t))) := by
  cases t with
  | leaf d x => cases d <;> (unfold tw; rfl)
  | many d x => cases d <;> (unfold tw; rfl)
  | grd d x => cases d <;> (unfold tw; rfl)
  | _ => unfold tw; rfl
theorem len_nds (t : T) : ((nds t).map tw).length = cnt t := by rw [List.length_map, nds_len]
theorem len_K {K : Nat} (hK : 1 ≤ K) {t : T} (h : cnt t ≤ 100000) (m : Sto) : lenM Tt ((Sv K).m 7) (tw t) m = .ok (.int (cnt t)) m := by
  obtain ⟨k, rfl⟩ : ∃ k, K = k + 1 := ⟨K - 1, by omega⟩
  have e : runB N_Tree___len__.length (b_Tree___len__ (Sv k)) [tw t] m = .ok (.int (cnt t)) m := by
    simp (decide := true) only [runB, runI, bnd, lift, exS, sSeq, sSeqF, sNil, sSet, sSetN, sSetL, sIf, sRet, sRetN, sExp, sFor, sExt, sApp, sFrz, sPar, sPar3, sUnp, sSetIx, sBrk, sCnt, eVar, rVar, eC, op1, op2, eCall, eNew, aCons, aNil, aStar, eTup, eL, nLst, nRev, nLc, eBlt, eIf, eAnd, eOr, eNotV, tTru, tBl, tNt, tAn, tOrr, tYesM, truW, blW, eChain, iSeq, itW, iRng, bName, bTup, bAll, eMt, ePush, eJoin, jsW, e1M, e2M, sAug, sSup, sFldS, sTree, wipeS, lenW, tupleW, frzb, toW, clsO, eSl, oSome, oNone, Sm.ret, Sm.bad, List.map_cons, List.map_nil, List.length_cons, List.length_nil, List.cons_append, List.nil_append, List.append_nil, List.replicate_succ, List.replicate_zero, List.set_cons_succ, List.set_cons_zero, List.getElem?_cons_succ, List.getElem?_cons_zero, List.length_append, List.length_map, if_true, if_false, reduceIte, Bool.true_and, Bool.and_true, Bool.not_true, Bool.not_false, Option.map_some, Option.map_none, Option.bind_some, Option.bind_none, le_size, lt_size, Nat.reduceLeDiff, Nat.reduceAdd, Nat.reduceSub, Nat.reducePow, Nat.zero_add, decide_eq_true_eq, Nat.reduceLT, gt_iff_lt, ge_iff_le, decide_true, decide_false, Bool.false_eq_true, Bool.or_true, Bool.true_or, Bool.or_false, Bool.false_or, Bool.false_and, Bool.and_false, or_true, true_or, and_true, true_and, or_false, false_or, and_false, false_and, and_self, not_false_eq_true, not_true_eq_false, b_Tree___len__, N_Tree___len__, fld_nodes, nds_len]
  have hz : 0 ≤ (cnt t : Int) ∧ (cnt t : Int).toNat < 4611686018427387904 := ⟨by omega, by omega⟩
  simp only [lenM, cls_tw, tn_in, if_true, Sm___len__, e]
  rw [if_pos hz]
theorem le_int (i j : Int) (m : Sto) : cmpI (fun i j => decide (i ≤ j)) (.int i) (.int j) m = some (.bl (decide (i ≤ j))) := rfl
theorem atI_map {t s : T} {i : Int} {n : Nat} (hi : i = n) (hs : (nds t)[n]? = some s) : atI ((nds t).map tw) i = some (tw s) := by
  subst hi
  exact atI_nat (by rw [List.getElem?_map, hs]; rfl)
theorem item_K {K : Nat} (hK : 1 ≤ K) {t s : T} {i : Int} {n : Nat} (hi : i = n) (hs : (nds t)[n]? = some s) (m : Sto) : itemM Tt ((Sv K).m 8) (tw t) (.int i) m = .ok (tw s) m := by
  obtain ⟨k, rfl⟩ : ∃ k, K = k + 1 := ⟨K - 1, by omega⟩
  have hl : n < cnt t := by rw [← nds_len]; exact (List.getElem?_eq_some_iff.mp hs).1
  have h0 : (0 : Int) ≤ i := by omega
  have h1 : i < (cnt t : Int) := by omega
  have ea := atI_map hi hs
  have e : runB N_Tree___getitem__.length (b_Tree___getitem__ (Sv k)) [tw t, .int i] m = .ok (tw s) m := by
    simp (decide := true) only [runB, runI, bnd, lift, exS, sSeq, sSeqF, sNil, sSet, sSetN, sSetL, sIf, sRet, sRetN, sExp, sFor, sExt, sApp, sFrz, sPar, sPar3, sUnp, sSetIx, sBrk, sCnt, eVar, rVar, eC, op1, op2, eCall, eNew, aCons, aNil, aStar, eTup, eL, nLst, nRev, nLc, eBlt, eIf, eAnd, eOr, eNotV, tTru, tBl, tNt, tAn, tOrr, tYesM, truW, blW, eChain, iSeq, itW, iRng, bName, bTup, bAll, eMt, ePush, eJoin, jsW, e1M, e2M, sAug, sSup, sFldS, sTree, wipeS, lenW, tupleW, frzb, toW, clsO, eSl, oSome, oNone, Sm.ret, Sm.bad, List.map_cons, List.map_nil, List.length_cons, List.length_nil, List.cons_append, List.nil_append, List.append_nil, List.replicate_succ, List.replicate_zero, List.set_cons_succ, List.set_cons_zero, List.getElem?_cons_succ, List.getElem?_cons_zero, List.length_append, List.length_map, if_true, if_false, reduceIte, Bool.true_and, Bool.and_true, Bool.not_true, Bool.not_false, Option.map_some, Option.map_none, Option.bind_some, Option.bind_none, le_size, lt_size, Nat.reduceLeDiff, Nat.reduceAdd, Nat.reduceSub, Nat.reducePow, Nat.zero_add, decide_eq_true_eq, Nat.reduceLT, gt_iff_lt, ge_iff_le, decide_true, decide_false, Bool.false_eq_true, Bool.or_true, Bool.true_or, Bool.or_false, Bool.false_or, Bool.false_and, Bool.and_false, or_true, true_or, and_true, true_and, or_false, false_or, and_false, false_and, and_self, not_false_eq_true, not_true_eq_false, b_Tree___getitem__, N_Tree___getitem__, fld_nodes, nds_len, le_int, lt_int, h0, h1, ixW, ea]
  simp only [itemM, cls_tw, tn_in, if_true, Sm___getitem__, e]
end Pl

namespace Pl
open PySem PySem.Spec PyProof.Rows L2 Sm
theorem besideT_ok (k : Nat) {ks : List T} (h : Sz ks) {n : Int} (h1 : 1 ≤ n) (h2 : n ≤ ks.length) (m : Sto) : newM "Beside" ((Sv (k + 3)).i 4) [.tup (twL ks), .int n] m = .ok (tw (.beside n ks)) m := by
  rw [Si_Beside]
  have hn : n.natAbs.log2 < 1920 := log_ok (by have := h.c2; omega)
  have hl : (Str.empty ++ ("beside " : Str) ++ Str.ofString (toString n)).length ≤ 16777216 := by
    rw [len_app]
    have : (Str.empty ++ ("beside " : Str)).length = 7 := rfl
    have := str_len (n := n) (by have := h.c2; omega)
    omega
  have e := tree_initP (k + 1) "Beside" "beside" (.tup (twL ks)) ks (lw ((Str.empty ++ ("beside " : Str) ++ Str.ofString (toString n)) :: (lnsL ks ++ [("end" : Str)]))) m rfl rfl rfl rfl h.c1
  have e2 := lines_ok (k + 1) (Str.empty ++ ("beside " : Str) ++ Str.ofString (toString n)) ks ["end"] h.c3 m
  simp only [List.map_cons, List.map_nil] at e2
  simp (decide := true) only [runB, runI, bnd, lift, exS, sSeq, sSeqF, sNil, sSet, sSetN, sSetL, sIf, sRet, sRetN, sExp, sFor, sExt, sApp, sFrz, sPar, sPar3, sUnp, sSetIx, sBrk, sCnt, eVar, rVar, eC, op1, op2, eCall, eNew, aCons, aNil, aStar, eTup, eL, nLst, nRev, nLc, eBlt, eIf, eAnd, eOr, eNotV, tTru, tBl, tNt, tAn, tOrr, tYesM, truW, blW, eChain, iSeq, itW, iRng, bName, bTup, bAll, eMt, ePush, eJoin, jsW, e1M, e2M, sAug, sSup, sFldS, sTree, wipeS, lenW, tupleW, frzb, toW, clsO, eSl, oSome, oNone, Sm.ret, Sm.bad, List.map_cons, List.map_nil, List.length_cons, List.length_nil, List.cons_append, List.nil_append, List.append_nil, List.replicate_succ, List.replicate_zero, List.set_cons_succ, List.set_cons_zero, List.getElem?_cons_succ, List.getElem?_cons_zero, List.length_append, List.length_map, if_true, if_false, reduceIte, Bool.true_and, Bool.and_true, Bool.not_true, Bool.not_false, Option.map_some, Option.map_none, Option.bind_some, Option.bind_none, le_size, lt_size, Nat.reduceLeDiff, Nat.reduceAdd, Nat.reduceSub, Nat.reducePow, Nat.zero_add, decide_eq_true_eq, Nat.reduceLT, gt_iff_lt, ge_iff_le, decide_true, decide_false, Bool.false_eq_true, Bool.or_true, Bool.true_or, Bool.or_false, Bool.false_or, Bool.false_and, Bool.and_false, or_true, true_or, and_true, true_and, or_false, false_or, and_false, false_and, and_self, not_false_eq_true, not_true_eq_false, newM, b_Beside___init__, N_Beside___init__, partsT_ok k ks h.c2, putO, putA, is_int_ok (k + 1), fld_parts "Beside" rfl, hasA, fmtW, hn, hl, cmpI, h1, h2, twL_len, e2]
  rw [e]
  simp (decide := true) only [runB, runI, bnd, lift, exS, sSeq, sSeqF, sNil, sSet, sSetN, sSetL, sIf, sRet, sRetN, sExp, sFor, sExt, sApp, sFrz, sPar, sPar3, sUnp, sSetIx, sBrk, sCnt, eVar, rVar, eC, op1, op2, eCall, eNew, aCons, aNil, aStar, eTup, eL, nLst, nRev, nLc, eBlt, eIf, eAnd, eOr, eNotV, tTru, tBl, tNt, tAn, tOrr, tYesM, truW, blW, eChain, iSeq, itW, iRng, bName, bTup, bAll, eMt, ePush, eJoin, jsW, e1M, e2M, sAug, sSup, sFldS, sTree, wipeS, lenW, tupleW, frzb, toW, clsO, eSl, oSome, oNone, Sm.ret, Sm.bad, List.map_cons, List.map_nil, List.length_cons, List.length_nil, List.cons_append, List.nil_append, List.append_nil, List.replicate_succ, List.replicate_zero, List.set_cons_succ, List.set_cons_zero, List.getElem?_cons_succ, List.getElem?_cons_zero, List.length_append, List.length_map, if_true, if_false, reduceIte, Bool.true_and, Bool.and_true, Bool.not_true, Bool.not_false, Option.map_some, Option.map_none, Option.bind_some, Option.bind_none, le_size, lt_size, Nat.reduceLeDiff, Nat.reduceAdd, Nat.reduceSub, Nat.reducePow, Nat.zero_add, decide_eq_true_eq, Nat.reduceLT, gt_iff_lt, ge_iff_le, decide_true, decide_false, Bool.false_eq_true, Bool.or_true, Bool.true_or, Bool.or_false, Bool.false_or, Bool.false_and, Bool.and_false, or_true, true_or, and_true, true_and, or_false, false_or, and_false, false_and, and_self, not_false_eq_true, not_true_eq_false, putO, putA, hasA]
  rfl
/-- the node anew, with other parts -/
theorem anew_K {K : Nat} (hK : 4 ≤ K) {t : T} (hw : Wf t) {ks : List T} (h : Sz ks) (hl : ks.length = (kids t).length) (m : Sto) : (Sv K).m 10 (tn t) [tw t, .tup (twL ks)] m = .ok (tw (re t ks)) m := by
  obtain ⟨k, rfl⟩ : ∃ k, K = k + 3 + 1 := ⟨K - 4, by omega⟩
  cases t with
  | leaf d x =>
    cases d
    · show (Sv (k + 3 + 1)).m 10 "Ask" _ m = _
      rw [Sm_anew_Ask]
      simp (decide := true) only [runB, runI, bnd, lift, exS, sSeq, sSeqF, sNil, sSet, sSetN, sSetL, sIf, sRet, sRetN, sExp, sFor, sExt, sApp, sFrz, sPar, sPar3, sUnp, sSetIx, sBrk, sCnt, eVar, rVar, eC, op1, op2, eCall, eNew, aCons, aNil, aStar, eTup, eL, nLst, nRev, nLc, eBlt, eIf, eAnd, eOr, eNotV, tTru, tBl, tNt, tAn, tOrr, tYesM, truW, blW, eChain, iSeq, itW, iRng, bName, bTup, bAll, eMt, ePush, eJoin, jsW, e1M, e2M, sAug, sSup, sFldS, sTree, wipeS, lenW, tupleW, frzb, toW, clsO, eSl, oSome, oNone, Sm.ret, Sm.bad, List.map_cons, List.map_nil, List.length_cons, List.length_nil, List.cons_append, List.nil_append, List.append_nil, List.replicate_succ, List.replicate_zero, List.set_cons_succ, List.set_cons_zero, List.getElem?_cons_succ, List.getElem?_cons_zero, List.length_append, List.length_map, if_true, if_false, reduceIte, Bool.true_and, Bool.and_true, Bool.not_true, Bool.not_false, Option.map_some, Option.map_none, Option.bind_some, Option.bind_none, le_size, lt_size, Nat.reduceLeDiff, Nat.reduceAdd, Nat.reduceSub, Nat.reducePow, Nat.zero_add, decide_eq_true_eq, Nat.reduceLT, gt_iff_lt, ge_iff_le, decide_true, decide_false, Bool.false_eq_true, Bool.or_true, Bool.true_or, Bool.or_false, Bool.false_or, Bool.false_and, Bool.and_false, or_true, true_or, and_true, true_and, or_false, false_or, and_false, false_and, and_self, not_false_eq_true, not_true_eq_false, b_Tree_anew, N_Tree_anew, re]
    · show (Sv (k + 3 + 1)).m 10 "Do" _ m = _
      rw [Sm_anew_Do]
      simp (decide := true) only [runB, runI, bnd, lift, exS, sSeq, sSeqF, sNil, sSet, sSetN, sSetL, sIf, sRet, sRetN, sExp, sFor, sExt, sApp, sFrz, sPar, sPar3, sUnp, sSetIx, sBrk, sCnt, eVar, rVar, eC, op1, op2, eCall, eNew, aCons, aNil, aStar, eTup, eL, nLst, nRev, nLc, eBlt, eIf, eAnd, eOr, eNotV, tTru, tBl, tNt, tAn, tOrr, tYesM, truW, blW, eChain, iSeq, itW, iRng, bName, bTup, bAll, eMt, ePush, eJoin, jsW, e1M, e2M, sAug, sSup, sFldS, sTree, wipeS, lenW, tupleW, frzb, toW, clsO, eSl, oSome, oNone, Sm.ret, Sm.bad, List.map_cons, List.map_nil, List.length_cons, List.length_nil, List.cons_append, List.nil_append, List.append_nil, List.replicate_succ, List.replicate_zero, List.set_cons_succ, List.set_cons_zero, List.getElem?_cons_succ, List.getElem?_cons_zero, List.length_append, List.length_map, if_true, if_false, reduceIte, Bool.true_and, Bool.and_true, Bool.not_true, Bool.not_false, Option.map_some, Option.map_none, Option.bind_some, Option.bind_none, le_size, lt_size, Nat.reduceLeDiff, Nat.reduceAdd, Nat.reduceSub, Nat.reducePow, Nat.zero_add, decide_eq_true_eq, Nat.reduceLT, gt_iff_lt, ge_iff_le, decide_true, decide_false, Bool.false_eq_true, Bool.or_true, Bool.true_or, Bool.or_false, Bool.false_or, Bool.false_and, Bool.and_false, or_true, true_or, and_true, true_and, or_false, false_or, and_false, false_and, and_self, not_false_eq_true, not_true_eq_false, b_Tree_anew, N_Tree_anew, re]
  | many r kp ks' =>
    cases r
    · show (Sv (k + 3 + 1)).m 10 "First" _ m = _
      have e : ∀ m, fldW Tx.ats "kept" (tw (.many false kp ks')) m = some (.bl kp) := fun m => by unfold tw; rfl
      rw [Sm_anew_First]
      simp (decide := true) only [runB, runI, bnd, lift, exS, sSeq, sSeqF, sNil, sSet, sSetN, sSetL, sIf, sRet, sRetN, sExp, sFor, sExt, sApp, sFrz, sPar, sPar3, sUnp, sSetIx, sBrk, sCnt, eVar, rVar, eC, op1, op2, eCall, eNew, aCons, aNil, aStar, eTup, eL, nLst, nRev, nLc, eBlt, eIf, eAnd, eOr, eNotV, tTru, tBl, tNt, tAn, tOrr, tYesM, truW, blW, eChain, iSeq, itW, iRng, bName, bTup, bAll, eMt, ePush, eJoin, jsW, e1M, e2M, sAug, sSup, sFldS, sTree, wipeS, lenW, tupleW, frzb, toW, clsO, eSl, oSome, oNone, Sm.ret, Sm.bad, List.map_cons, List.map_nil, List.length_cons, List.length_nil, List.cons_append, List.nil_append, List.append_nil, List.replicate_succ, List.replicate_zero, List.set_cons_succ, List.set_cons_zero, List.getElem?_cons_succ, List.getElem?_cons_zero, List.length_append, List.length_map, if_true, if_false, reduceIte, Bool.true_and, Bool.and_true, Bool.not_true, Bool.not_false, Option.map_some, Option.map_none, Option.bind_some, Option.bind_none, le_size, lt_size, Nat.reduceLeDiff, Nat.reduceAdd, Nat.reduceSub, Nat.reducePow, Nat.zero_add, decide_eq_true_eq, Nat.reduceLT, gt_iff_lt, ge_iff_le, decide_true, decide_false, Bool.false_eq_true, Bool.or_true, Bool.true_or, Bool.or_false, Bool.false_or, Bool.false_and, Bool.and_false, or_true, true_or, and_true, true_and, or_false, false_or, and_false, false_and, and_self, not_false_eq_true, not_true_eq_false, b_First_anew, N_First_anew, e, firstT_ok k h, re]
    · show (Sv (k + 3 + 1)).m 10 "Row" _ m = _
      have e : ∀ m, fldW Tx.ats "kept" (tw (.many true kp ks')) m = some (.bl kp) := fun m => by unfold tw; rfl
      rw [Sm_anew_Row]
      simp (decide := true) only [runB, runI, bnd, lift, exS, sSeq, sSeqF, sNil, sSet, sSetN, sSetL, sIf, sRet, sRetN, sExp, sFor, sExt, sApp, sFrz, sPar, sPar3, sUnp, sSetIx, sBrk, sCnt, eVar, rVar, eC, op1, op2, eCall, eNew, aCons, aNil, aStar, eTup, eL, nLst, nRev, nLc, eBlt, eIf, eAnd, eOr, eNotV, tTru, tBl, tNt, tAn, tOrr, tYesM, truW, blW, eChain, iSeq, itW, iRng, bName, bTup, bAll, eMt, ePush, eJoin, jsW, e1M, e2M, sAug, sSup, sFldS, sTree, wipeS, lenW, tupleW, frzb, toW, clsO, eSl, oSome, oNone, Sm.ret, Sm.bad, List.map_cons, List.map_nil, List.length_cons, List.length_nil, List.cons_append, List.nil_append, List.append_nil, List.replicate_succ, List.replicate_zero, List.set_cons_succ, List.set_cons_zero, List.getElem?_cons_succ, List.getElem?_cons_zero, List.length_append, List.length_map, if_true, if_false, reduceIte, Bool.true_and, Bool.and_true, Bool.not_true, Bool.not_false, Option.map_some, Option.map_none, Option.bind_some, Option.bind_none, le_size, lt_size, Nat.reduceLeDiff, Nat.reduceAdd, Nat.reduceSub, Nat.reducePow, Nat.zero_add, decide_eq_true_eq, Nat.reduceLT, gt_iff_lt, ge_iff_le, decide_true, decide_false, Bool.false_eq_true, Bool.or_true, Bool.true_or, Bool.or_false, Bool.false_or, Bool.false_and, Bool.and_false, or_true, true_or, and_true, true_and, or_false, false_or, and_false, false_and, and_self, not_false_eq_true, not_true_eq_false, b_Row_anew, N_Row_anew, e, rowT_ok k h, re]
  | beside n ks' =>
    show (Sv (k + 3 + 1)).m 10 "Beside" _ m = _
    have e : ∀ m, fldW Tx.ats "needed" (tw (.beside n ks')) m = some (.int n) := fun m => by unfold tw; rfl
    rw [Sm_anew_Beside]
    simp only [kids] at hl
    simp (decide := true) only [runB, runI, bnd, lift, exS, sSeq, sSeqF, sNil, sSet, sSetN, sSetL, sIf, sRet, sRetN, sExp, sFor, sExt, sApp, sFrz, sPar, sPar3, sUnp, sSetIx, sBrk, sCnt, eVar, rVar, eC, op1, op2, eCall, eNew, aCons, aNil, aStar, eTup, eL, nLst, nRev, nLc, eBlt, eIf, eAnd, eOr, eNotV, tTru, tBl, tNt, tAn, tOrr, tYesM, truW, blW, eChain, iSeq, itW, iRng, bName, bTup, bAll, eMt, ePush, eJoin, jsW, e1M, e2M, sAug, sSup, sFldS, sTree, wipeS, lenW, tupleW, frzb, toW, clsO, eSl, oSome, oNone, Sm.ret, Sm.bad, List.map_cons, List.map_nil, List.length_cons, List.length_nil, List.cons_append, List.nil_append, List.append_nil, List.replicate_succ, List.replicate_zero, List.set_cons_succ, List.set_cons_zero, List.getElem?_cons_succ, List.getElem?_cons_zero, List.length_append, List.length_map, if_true, if_false, reduceIte, Bool.true_and, Bool.and_true, Bool.not_true, Bool.not_false, Option.map_some, Option.map_none, Option.bind_some, Option.bind_none, le_size, lt_size, Nat.reduceLeDiff, Nat.reduceAdd, Nat.reduceSub, Nat.reducePow, Nat.zero_add, decide_eq_true_eq, Nat.reduceLT, gt_iff_lt, ge_iff_le, decide_true, decide_false, Bool.false_eq_true, Bool.or_true, Bool.true_or, Bool.or_false, Bool.false_or, Bool.false_and, Bool.and_false, or_true, true_or, and_true, true_and, or_false, false_or, and_false, false_and, and_self, not_false_eq_true, not_true_eq_false, b_Beside_anew, N_Beside_anew, e, besideT_ok k h hw.1 (by rw [hl]; exact hw.2.1), re]
  | again r s =>
    match ks, hl, h with
    | [a], _, h =>
      show (Sv (k + 3 + 1)).m 10 "Again" _ m = _
      have e : ∀ m, fldW Tx.ats "rounds" (tw (.again r s)) m = some (opI r) := fun m => by unfold tw; rfl
      have e2 := again_ok k h (r := r) (fun i e => by have := hw.1 i e; omega) m
      rw [Sm_anew_Again]
      simp (decide := true) only [runB, runI, bnd, lift, exS, sSeq, sSeqF, sNil, sSet, sSetN, sSetL, sIf, sRet, sRetN, sExp, sFor, sExt, sApp, sFrz, sPar, sPar3, sUnp, sSetIx, sBrk, sCnt, eVar, rVar, eC, op1, op2, eCall, eNew, aCons, aNil, aStar, eTup, eL, nLst, nRev, nLc, eBlt, eIf, eAnd, eOr, eNotV, tTru, tBl, tNt, tAn, tOrr, tYesM, truW, blW, eChain, iSeq, itW, iRng, bName, bTup, bAll, eMt, ePush, eJoin, jsW, e1M, e2M, sAug, sSup, sFldS, sTree, wipeS, lenW, tupleW, frzb, toW, clsO, eSl, oSome, oNone, Sm.ret, Sm.bad, List.map_cons, List.map_nil, List.length_cons, List.length_nil, List.cons_append, List.nil_append, List.append_nil, List.replicate_succ, List.replicate_zero, List.set_cons_succ, List.set_cons_zero, List.getElem?_cons_succ, List.getElem?_cons_zero, List.length_append, List.length_map, if_true, if_false, reduceIte, Bool.true_and, Bool.and_true, Bool.not_true, Bool.not_false, Option.map_some, Option.map_none, Option.bind_some, Option.bind_none, le_size, lt_size, Nat.reduceLeDiff, Nat.reduceAdd, Nat.reduceSub, Nat.reducePow, Nat.zero_add, decide_eq_true_eq, Nat.reduceLT, gt_iff_lt, ge_iff_le, decide_true, decide_false, Bool.false_eq_true, Bool.or_true, Bool.true_or, Bool.or_false, Bool.false_or, Bool.false_and, Bool.and_false, or_true, true_or, and_true, true_and, or_false, false_or, and_false, false_and, and_self, not_false_eq_true, not_true_eq_false, b_Again_anew, N_Again_anew, e, twL, ixW, atI_0, e2, re, List.headD]
  | grd w x s =>
    match ks, hl, h with
    | [a], _, h =>
      cases w
      · show (Sv (k + 3 + 1)).m 10 "If" _ m = _
        have e : ∀ m, fldW Tx.ats "question" (tw (.grd false x s)) m = some (.str x) := fun m => by unfold tw; rfl
        rw [Sm_anew_If]
        simp (decide := true) only [runB, runI, bnd, lift, exS, sSeq, sSeqF, sNil, sSet, sSetN, sSetL, sIf, sRet, sRetN, sExp, sFor, sExt, sApp, sFrz, sPar, sPar3, sUnp, sSetIx, sBrk, sCnt, eVar, rVar, eC, op1, op2, eCall, eNew, aCons, aNil, aStar, eTup, eL, nLst, nRev, nLc, eBlt, eIf, eAnd, eOr, eNotV, tTru, tBl, tNt, tAn, tOrr, tYesM, truW, blW, eChain, iSeq, itW, iRng, bName, bTup, bAll, eMt, ePush, eJoin, jsW, e1M, e2M, sAug, sSup, sFldS, sTree, wipeS, lenW, tupleW, frzb, toW, clsO, eSl, oSome, oNone, Sm.ret, Sm.bad, List.map_cons, List.map_nil, List.length_cons, List.length_nil, List.cons_append, List.nil_append, List.append_nil, List.replicate_succ, List.replicate_zero, List.set_cons_succ, List.set_cons_zero, List.getElem?_cons_succ, List.getElem?_cons_zero, List.length_append, List.length_map, if_true, if_false, reduceIte, Bool.true_and, Bool.and_true, Bool.not_true, Bool.not_false, Option.map_some, Option.map_none, Option.bind_some, Option.bind_none, le_size, lt_size, Nat.reduceLeDiff, Nat.reduceAdd, Nat.reduceSub, Nat.reducePow, Nat.zero_add, decide_eq_true_eq, Nat.reduceLT, gt_iff_lt, ge_iff_le, decide_true, decide_false, Bool.false_eq_true, Bool.or_true, Bool.true_or, Bool.or_false, Bool.false_or, Bool.false_and, Bool.and_false, or_true, true_or, and_true, true_and, or_false, false_or, and_false, false_and, and_self, not_false_eq_true, not_true_eq_false, b_If_anew, N_If_anew, e, twL, ixW, atI_0, if_ok k h hw.1, re, List.headD]
      · show (Sv (k + 3 + 1)).m 10 "While" _ m = _
        have e : ∀ m, fldW Tx.ats "question" (tw (.grd true x s)) m = some (.str x) := fun m => by unfold tw; rfl
        rw [Sm_anew_While]
        simp (decide := true) only [runB, runI, bnd, lift, exS, sSeq, sSeqF, sNil, sSet, sSetN, sSetL, sIf, sRet, sRetN, sExp, sFor, sExt, sApp, sFrz, sPar, sPar3, sUnp, sSetIx, sBrk, sCnt, eVar, rVar, eC, op1, op2, eCall, eNew, aCons, aNil, aStar, eTup, eL, nLst, nRev, nLc, eBlt, eIf, eAnd, eOr, eNotV, tTru, tBl, tNt, tAn, tOrr, tYesM, truW, blW, eChain, iSeq, itW, iRng, bName, bTup, bAll, eMt, ePush, eJoin, jsW, e1M, e2M, sAug, sSup, sFldS, sTree, wipeS, lenW, tupleW, frzb, toW, clsO, eSl, oSome, oNone, Sm.ret, Sm.bad, List.map_cons, List.map_nil, List.length_cons, List.length_nil, List.cons_append, List.nil_append, List.append_nil, List.replicate_succ, List.replicate_zero, List.set_cons_succ, List.set_cons_zero, List.getElem?_cons_succ, List.getElem?_cons_zero, List.length_append, List.length_map, if_true, if_false, reduceIte, Bool.true_and, Bool.and_true, Bool.not_true, Bool.not_false, Option.map_some, Option.map_none, Option.bind_some, Option.bind_none, le_size, lt_size, Nat.reduceLeDiff, Nat.reduceAdd, Nat.reduceSub, Nat.reducePow, Nat.zero_add, decide_eq_true_eq, Nat.reduceLT, gt_iff_lt, ge_iff_le, decide_true, decide_false, Bool.false_eq_true, Bool.or_true, Bool.true_or, Bool.or_false, Bool.false_or, Bool.false_and, Bool.and_false, or_true, true_or, and_true, true_and, or_false, false_or, and_false, false_and, and_self, not_false_eq_true, not_true_eq_false, b_While_anew, N_While_anew, e, twL, ixW, atI_0, while_ok k h hw.1, re, List.headD]
  | nt s =>
    match ks, hl, h with
    | [a], _, h =>
      show (Sv (k + 3 + 1)).m 10 "Not" _ m = _
      rw [Sm_anew_Not]
      simp (decide := true) only [runB, runI, bnd, lift, exS, sSeq, sSeqF, sNil, sSet, sSetN, sSetL, sIf, sRet, sRetN, sExp, sFor, sExt, sApp, sFrz, sPar, sPar3, sUnp, sSetIx, sBrk, sCnt, eVar, rVar, eC, op1, op2, eCall, eNew, aCons, aNil, aStar, eTup, eL, nLst, nRev, nLc, eBlt, eIf, eAnd, eOr, eNotV, tTru, tBl, tNt, tAn, tOrr, tYesM, truW, blW, eChain, iSeq, itW, iRng, bName, bTup, bAll, eMt, ePush, eJoin, jsW, e1M, e2M, sAug, sSup, sFldS, sTree, wipeS, lenW, tupleW, frzb, toW, clsO, eSl, oSome, oNone, Sm.ret, Sm.bad, List.map_cons, List.map_nil, List.length_cons, List.length_nil, List.cons_append, List.nil_append, List.append_nil, List.replicate_succ, List.replicate_zero, List.set_cons_succ, List.set_cons_zero, List.getElem?_cons_succ, List.getElem?_cons_zero, List.length_append, List.length_map, if_true, if_false, reduceIte, Bool.true_and, Bool.and_true, Bool.not_true, Bool.not_false, Option.map_some, Option.map_none, Option.bind_some, Option.bind_none, le_size, lt_size, Nat.reduceLeDiff, Nat.reduceAdd, Nat.reduceSub, Nat.reducePow, Nat.zero_add, decide_eq_true_eq, Nat.reduceLT, gt_iff_lt, ge_iff_le, decide_true, decide_false, Bool.false_eq_true, Bool.or_true, Bool.true_or, Bool.or_false, Bool.false_or, Bool.false_and, Bool.and_false, or_true, true_or, and_true, true_and, or_false, false_or, and_false, false_and, and_self, not_false_eq_true, not_true_eq_false, b_Not_anew, N_Not_anew, twL, ixW, atI_0, not_ok k h, re, List.headD]
  | alw w s =>
    match ks, hl, h with
    | [a], _, h =>
      show (Sv (k + 3 + 1)).m 10 "Always" _ m = _
      have e : ∀ m, fldW Tx.ats "word" (tw (.alw w s)) m = some (.str (zA w)) := fun m => by unfold tw; rfl
      rw [Sm_anew_Always]
      simp (decide := true) only [runB, runI, bnd, lift, exS, sSeq, sSeqF, sNil, sSet, sSetN, sSetL, sIf, sRet, sRetN, sExp, sFor, sExt, sApp, sFrz, sPar, sPar3, sUnp, sSetIx, sBrk, sCnt, eVar, rVar, eC, op1, op2, eCall, eNew, aCons, aNil, aStar, eTup, eL, nLst, nRev, nLc, eBlt, eIf, eAnd, eOr, eNotV, tTru, tBl, tNt, tAn, tOrr, tYesM, truW, blW, eChain, iSeq, itW, iRng, bName, bTup, bAll, eMt, ePush, eJoin, jsW, e1M, e2M, sAug, sSup, sFldS, sTree, wipeS, lenW, tupleW, frzb, toW, clsO, eSl, oSome, oNone, Sm.ret, Sm.bad, List.map_cons, List.map_nil, List.length_cons, List.length_nil, List.cons_append, List.nil_append, List.append_nil, List.replicate_succ, List.replicate_zero, List.set_cons_succ, List.set_cons_zero, List.getElem?_cons_succ, List.getElem?_cons_zero, List.length_append, List.length_map, if_true, if_false, reduceIte, Bool.true_and, Bool.and_true, Bool.not_true, Bool.not_false, Option.map_some, Option.map_none, Option.bind_some, Option.bind_none, le_size, lt_size, Nat.reduceLeDiff, Nat.reduceAdd, Nat.reduceSub, Nat.reducePow, Nat.zero_add, decide_eq_true_eq, Nat.reduceLT, gt_iff_lt, ge_iff_le, decide_true, decide_false, Bool.false_eq_true, Bool.or_true, Bool.true_or, Bool.or_false, Bool.false_or, Bool.false_and, Bool.and_false, or_true, true_or, and_true, true_and, or_false, false_or, and_false, false_and, and_self, not_false_eq_true, not_true_eq_false, b_Always_anew, N_Always_anew, e, twL, ixW, atI_0, always_ok k h, re, List.headD]
theorem no_put (t : T) : (attrs (tw t)).contains "put" = false := by
  cases t with
  | leaf d x => cases d <;> (unfold tw; rfl)
  | many d x => cases d <;> (unfold tw; rfl)
  | grd d x => cases d <;> (unfold tw; rfl)
  | _ => unfold tw; rfl
theorem no_anew (t : T) : (attrs (tw t)).contains "anew" = false := by
  cases t with
  | leaf d x => cases d <;> (unfold tw; rfl)
  | many d x => cases d <;> (unfold tw; rfl)
  | grd d x => cases d <;> (unfold tw; rfl)
  | _ => unfold tw; rfl
/-- Γ's method put -/
def Put (Γ : Gam) (n : Nat) : Prop := ∀ (t o : T) (i : Int) (j : Nat) (m : Sto), i = j → j < cnt t → dep t ≤ n → Wf t → Wf o → cnt t + cnt o ≤ 100000 → Γ.m 9 (tn t) [tw t, .int i, tw o] m = .ok (tw (putT t j o)) m
theorem add_im (i j : Int) (m : Sto) : addIM (.int i) (.int j) m = .ok (.int (i + j)) m := rfl
theorem add_int2 (i j : Int) (m : Sto) : addW (.int i) (.int j) m = some (.int (i + j)) := rfl
abbrev putB (Γ : Gam) : Fs := (sSeq (sSet 6 (eBlt lenW (aCons (op1 (fldW Tx.ats "nodes") (eVar 5)) aNil)))
    (sSeq (sApp 3 (eIf (tBl (eChain (cmpI fun i j => decide (i ≤ j)) (cmpI fun i j => decide (i < j)) (rVar 4) (rVar 1) (op2 addW (rVar 4) (rVar 6)))) (eMeth "put" Tt 3 [] (Γ.m 9) (eVar 5) (aCons (op2 subW (rVar 1) (rVar 4)) (aCons (eVar 2) aNil))) (eVar 5)))
    (sAug 4 (eVar 6) addIM)))
theorem twL_app : ∀ (a b : List T), twL (a ++ b) = twL a ++ twL b
  | [], b => rfl
  | t :: r, b => by simp [twL, twL_app r b]
/-- behind the place nothing changes -/
theorem put_past {Γ : Gam} (m : Sto) (v0 : Sl) (i : Int) (o : W) : ∀ (ks acc : List T) (b : Int) (u5 u6 : Sl), i < b → acc.length + ks.length ≤ 100000 →
    ∃ b' u5' u6', forW (bName 5) (putB Γ) (twL ks) [v0, .val (.int i), .val o, .own (.lst (twL acc)), .val (.int b), u5, u6] m = .ok (.nx [v0, .val (.int i), .val o, .own (.lst (twL (acc ++ ks))), .val (.int b'), u5', u6']) m
  | [], acc, b, u5, u6, h, hz => ⟨b, u5, u6, by simp [forW, twL, sNil]⟩
  | k :: ks, acc, b, u5, u6, h, hz => by
    simp only [List.length_cons] at hz
    obtain ⟨b', u5', u6', e⟩ := put_past (Γ := Γ) m v0 i o ks (acc ++ [k]) (b + cnt k) (.val (tw k)) (.val (.int (cnt k))) (by have := cnt_pos k; omega) (by simp; omega)
    refine ⟨b', u5', u6', ?_⟩
    have h1 : ¬ b ≤ i := by omega
    have h2 : acc.length < 16777216 := by omega
    simp only [putB] at e ⊢
    simp (decide := true) only [runB, runI, bnd, lift, exS, sSeq, sSeqF, sNil, sSet, sSetN, sSetL, sIf, sRet, sRetN, sExp, sFor, sExt, sApp, sFrz, sPar, sPar3, sUnp, sSetIx, sBrk, sCnt, eVar, rVar, eC, op1, op2, eCall, eNew, aCons, aNil, aStar, eTup, eL, nLst, nRev, nLc, eBlt, eIf, eAnd, eOr, eNotV, tTru, tBl, tNt, tAn, tOrr, tYesM, truW, blW, eChain, iSeq, itW, iRng, bName, bTup, bAll, eMt, ePush, eJoin, jsW, e1M, e2M, sAug, sSup, sFldS, sTree, wipeS, lenW, tupleW, frzb, toW, clsO, eSl, oSome, oNone, Sm.ret, Sm.bad, List.map_cons, List.map_nil, List.length_cons, List.length_nil, List.cons_append, List.nil_append, List.append_nil, List.replicate_succ, List.replicate_zero, List.set_cons_succ, List.set_cons_zero, List.getElem?_cons_succ, List.getElem?_cons_zero, List.length_append, List.length_map, if_true, if_false, reduceIte, Bool.true_and, Bool.and_true, Bool.not_true, Bool.not_false, Option.map_some, Option.map_none, Option.bind_some, Option.bind_none, le_size, lt_size, Nat.reduceLeDiff, Nat.reduceAdd, Nat.reduceSub, Nat.reducePow, Nat.zero_add, decide_eq_true_eq, Nat.reduceLT, gt_iff_lt, ge_iff_le, decide_true, decide_false, Bool.false_eq_true, Bool.or_true, Bool.true_or, Bool.or_false, Bool.false_or, Bool.false_and, Bool.and_false, or_true, true_or, and_true, true_and, or_false, false_or, and_false, false_and, and_self, not_false_eq_true, not_true_eq_false, forW, twL, fld_nodes, nds_len, le_int, h1, twL_len, h2, add_im]
    rw [show acc ++ k :: ks = acc ++ [k] ++ ks by simp, ← e, twL_app]
    rfl
theorem put_loop {Γ : Gam} {n : Nat} (HP : Put Γ n) (m : Sto) (v0 : Sl) (i : Int) (o : T) (ho : Wf o) : ∀ (ks acc : List T) (b : Int) (j : Nat) (u5 u6 : Sl), i - b = j → j < cntL ks → depL ks ≤ n → WfL ks → cntL ks + cnt o ≤ 100000 → acc.length + cntL ks ≤ 100000 →
    ∃ b' u5' u6', forW (bName 5) (putB Γ) (twL ks) [v0, .val (.int i), .val (tw o), .own (.lst (twL acc)), .val (.int b), u5, u6] m = .ok (.nx [v0, .val (.int i), .val (tw o), .own (.lst (twL (acc ++ putL ks j o))), .val (.int b'), u5', u6']) m
  | [], acc, b, j, u5, u6, h, hj, _, _, _, _ => by simp [cntL] at hj
  | k :: ks, acc, b, j, u5, u6, h, hj, hd, hw, hc, hz => by
    simp only [cntL] at hj hc hz
    simp only [depL] at hd
    have hlk := len_cnt ks
    have hpk := cnt_pos k
    have h1 : b ≤ i := by omega
    have h2 : acc.length < 16777216 := by omega
    by_cases hk : j < cnt k
    · obtain ⟨b', u5', u6', e⟩ := put_past (Γ := Γ) m v0 i (tw o) ks (acc ++ [putT k j o]) (b + cnt k) (.val (tw k)) (.val (.int (cnt k))) (by omega) (by simp; omega)
      refine ⟨b', u5', u6', ?_⟩
      have h3 : i < b + (cnt k : Int) := by omega
      have e2 := HP k o (i - b) j m h hk (by omega) hw.1 ho (by omega)
      have ep : putL (k :: ks) j o = putT k j o :: ks := by simp [putL, hk]
      have hcn : Tt.contains (tn k) = true := tn_in k
      have hnp := no_put k
      simp only [putB] at e ⊢
      simp (decide := true) only [runB, runI, bnd, lift, exS, sSeq, sSeqF, sNil, sSet, sSetN, sSetL, sIf, sRet, sRetN, sExp, sFor, sExt, sApp, sFrz, sPar, sPar3, sUnp, sSetIx, sBrk, sCnt, eVar, rVar, eC, op1, op2, eCall, eNew, aCons, aNil, aStar, eTup, eL, nLst, nRev, nLc, eBlt, eIf, eAnd, eOr, eNotV, tTru, tBl, tNt, tAn, tOrr, tYesM, truW, blW, eChain, iSeq, itW, iRng, bName, bTup, bAll, eMt, ePush, eJoin, jsW, e1M, e2M, sAug, sSup, sFldS, sTree, wipeS, lenW, tupleW, frzb, toW, clsO, eSl, oSome, oNone, Sm.ret, Sm.bad, List.map_cons, List.map_nil, List.length_cons, List.length_nil, List.cons_append, List.nil_append, List.append_nil, List.replicate_succ, List.replicate_zero, List.set_cons_succ, List.set_cons_zero, List.getElem?_cons_succ, List.getElem?_cons_zero, List.length_append, List.length_map, if_true, if_false, reduceIte, Bool.true_and, Bool.and_true, Bool.not_true, Bool.not_false, Option.map_some, Option.map_none, Option.bind_some, Option.bind_none, le_size, lt_size, Nat.reduceLeDiff, Nat.reduceAdd, Nat.reduceSub, Nat.reducePow, Nat.zero_add, decide_eq_true_eq, Nat.reduceLT, gt_iff_lt, ge_iff_le, decide_true, decide_false, Bool.false_eq_true, Bool.or_true, Bool.true_or, Bool.or_false, Bool.false_or, Bool.false_and, Bool.and_false, or_true, true_or, and_true, true_and, or_false, false_or, and_false, false_and, and_self, not_false_eq_true, not_true_eq_false, forW, twL, fld_nodes, nds_len, le_int, lt_int, h1, add_int2, h3, eMeth, cls_tw, hcn, hnp, sub_int, e2, twL_len, h2, add_im]
      rw [ep, show acc ++ putT k j o :: ks = acc ++ [putT k j o] ++ ks by simp, ← e, twL_app]
      rfl
    · obtain ⟨b', u5', u6', e⟩ := put_loop HP m v0 i o ho ks (acc ++ [k]) (b + cnt k) (j - cnt k) (.val (tw k)) (.val (.int (cnt k))) (by omega) (by omega) (by omega) hw.2 (by omega) (by simp; omega)
      refine ⟨b', u5', u6', ?_⟩
      have h3 : ¬ i < b + (cnt k : Int) := by omega
      have ep : putL (k :: ks) j o = k :: putL ks (j - cnt k) o := by simp [putL, hk]
      simp only [putB] at e ⊢
      simp (decide := true) only [runB, runI, bnd, lift, exS, sSeq, sSeqF, sNil, sSet, sSetN, sSetL, sIf, sRet, sRetN, sExp, sFor, sExt, sApp, sFrz, sPar, sPar3, sUnp, sSetIx, sBrk, sCnt, eVar, rVar, eC, op1, op2, eCall, eNew, aCons, aNil, aStar, eTup, eL, nLst, nRev, nLc, eBlt, eIf, eAnd, eOr, eNotV, tTru, tBl, tNt, tAn, tOrr, tYesM, truW, blW, eChain, iSeq, itW, iRng, bName, bTup, bAll, eMt, ePush, eJoin, jsW, e1M, e2M, sAug, sSup, sFldS, sTree, wipeS, lenW, tupleW, frzb, toW, clsO, eSl, oSome, oNone, Sm.ret, Sm.bad, List.map_cons, List.map_nil, List.length_cons, List.length_nil, List.cons_append, List.nil_append, List.append_nil, List.replicate_succ, List.replicate_zero, List.set_cons_succ, List.set_cons_zero, List.getElem?_cons_succ, List.getElem?_cons_zero, List.length_append, List.length_map, if_true, if_false, reduceIte, Bool.true_and, Bool.and_true, Bool.not_true, Bool.not_false, Option.map_some, Option.map_none, Option.bind_some, Option.bind_none, le_size, lt_size, Nat.reduceLeDiff, Nat.reduceAdd, Nat.reduceSub, Nat.reducePow, Nat.zero_add, decide_eq_true_eq, Nat.reduceLT, gt_iff_lt, ge_iff_le, decide_true, decide_false, Bool.false_eq_true, Bool.or_true, Bool.true_or, Bool.or_false, Bool.false_or, Bool.false_and, Bool.and_false, or_true, true_or, and_true, true_and, or_false, false_or, and_false, false_and, and_self, not_false_eq_true, not_true_eq_false, forW, twL, fld_nodes, nds_len, le_int, lt_int, h1, add_int2, h3, twL_len, h2, add_im]
      rw [ep, show acc ++ k :: putL ks (j - cnt k) o = acc ++ [k] ++ putL ks (j - cnt k) o by simp, ← e, twL_app]
      rfl
end Pl

namespace Pl
open PySem PySem.Spec PyProof.Rows L2 Sm
theorem depL_mem {k : T} : ∀ {ks : List T}, k ∈ ks → dep k ≤ depL ks
  | [], h => by cases h
  | a :: r, h => by
    simp only [depL]
    rcases List.mem_cons.mp h with e | e
    · subst e; omega
    · have := depL_mem e; omega
theorem dep_eq (t : T) (h : kids t ≠ []) : dep t = depL (kids t) + 1 := by
  cases t <;> simp [kids, dep, depL] at h ⊢
def Anew (Γ : Gam) : Prop := ∀ (t : T) (ks : List T) (m : Sto), Wf t → Sz ks → ks.length = (kids t).length → Γ.m 10 (tn t) [tw t, .tup (twL ks)] m = .ok (tw (re t ks)) m
theorem put_of {Γ Γ' : Gam} {n : Nat} (HP : ∀ n', n = n' + 1 → Put Γ n') (HA : Anew Γ) (hΓ : ∀ C, Γ'.m 9 C = runB N_Tree_put.length (b_Tree_put Γ)) : Put Γ' n := by
  intro t o i j m hi hj hd hw ho hz
  rw [hΓ]
  have h0 : (0 : Int) ≤ i := by omega
  have h1 : i < (cnt t : Int) := by omega
  cases j with
  | zero =>
    have h2 : i = 0 := by omega
    subst h2
    rw [putT_0]
    simp (decide := true) only [runB, runI, bnd, lift, exS, sSeq, sSeqF, sNil, sSet, sSetN, sSetL, sIf, sRet, sRetN, sExp, sFor, sExt, sApp, sFrz, sPar, sPar3, sUnp, sSetIx, sBrk, sCnt, eVar, rVar, eC, op1, op2, eCall, eNew, aCons, aNil, aStar, eTup, eL, nLst, nRev, nLc, eBlt, eIf, eAnd, eOr, eNotV, tTru, tBl, tNt, tAn, tOrr, tYesM, truW, blW, eChain, iSeq, itW, iRng, bName, bTup, bAll, eMt, ePush, eJoin, jsW, e1M, e2M, sAug, sSup, sFldS, sTree, wipeS, lenW, tupleW, frzb, toW, clsO, eSl, oSome, oNone, Sm.ret, Sm.bad, List.map_cons, List.map_nil, List.length_cons, List.length_nil, List.cons_append, List.nil_append, List.append_nil, List.replicate_succ, List.replicate_zero, List.set_cons_succ, List.set_cons_zero, List.getElem?_cons_succ, List.getElem?_cons_zero, List.length_append, List.length_map, if_true, if_false, reduceIte, Bool.true_and, Bool.and_true, Bool.not_true, Bool.not_false, Option.map_some, Option.map_none, Option.bind_some, Option.bind_none, le_size, lt_size, Nat.reduceLeDiff, Nat.reduceAdd, Nat.reduceSub, Nat.reducePow, Nat.zero_add, decide_eq_true_eq, Nat.reduceLT, gt_iff_lt, ge_iff_le, decide_true, decide_false, Bool.false_eq_true, Bool.or_true, Bool.true_or, Bool.or_false, Bool.false_or, Bool.false_and, Bool.and_false, or_true, true_or, and_true, true_and, or_false, false_or, and_false, false_and, and_self, not_false_eq_true, not_true_eq_false, b_Tree_put, N_Tree_put, fld_nodes, nds_len, le_int, lt_int, h1, eqW_int]
  | succ j =>
    have h2 : ¬ i = 0 := by omega
    have hk : kids t ≠ [] := by
      intro e
      have := cnt_eq t
      rw [e] at this
      simp [cntL] at this
      omega
    have hc := cnt_eq t
    have hdk := dep_eq t hk
    obtain ⟨b', u5', u6', e⟩ := put_loop (HP (n - 1) (by omega)) m (.val (tw t)) i o ho (kids t) [] 1 j .un .un (by omega) (by omega) (by omega) (wf_kidsL hw) (by omega) (by simp; omega)
    have hs : ∃ s, (ndsL (kids t))[j]? = some s := ⟨(ndsL (kids t))[j]'(by rw [ndsL_len]; omega), by simp [ndsL_len]⟩
    obtain ⟨s, hs⟩ := hs
    have hcp := cntL_put (o := o) hs
    have hps := cnt_pos s
    have hsz : Sz (putL (kids t) j o) := ⟨by omega⟩
    have ea := HA t (putL (kids t) j o) m hw hsz (putL_len _ _ _)
    have hnp := no_anew t
    have hcn := tn_in t
    rw [putT_S t j o (by omega)]
    simp only [putB, List.nil_append, twL] at e
    simp (decide := true) only [runB, runI, bnd, lift, exS, sSeq, sSeqF, sNil, sSet, sSetN, sSetL, sIf, sRet, sRetN, sExp, sFor, sExt, sApp, sFrz, sPar, sPar3, sUnp, sSetIx, sBrk, sCnt, eVar, rVar, eC, op1, op2, eCall, eNew, aCons, aNil, aStar, eTup, eL, nLst, nRev, nLc, eBlt, eIf, eAnd, eOr, eNotV, tTru, tBl, tNt, tAn, tOrr, tYesM, truW, blW, eChain, iSeq, itW, iRng, bName, bTup, bAll, eMt, ePush, eJoin, jsW, e1M, e2M, sAug, sSup, sFldS, sTree, wipeS, lenW, tupleW, frzb, toW, clsO, eSl, oSome, oNone, Sm.ret, Sm.bad, List.map_cons, List.map_nil, List.length_cons, List.length_nil, List.cons_append, List.nil_append, List.append_nil, List.replicate_succ, List.replicate_zero, List.set_cons_succ, List.set_cons_zero, List.getElem?_cons_succ, List.getElem?_cons_zero, List.length_append, List.length_map, if_true, if_false, reduceIte, Bool.true_and, Bool.and_true, Bool.not_true, Bool.not_false, Option.map_some, Option.map_none, Option.bind_some, Option.bind_none, le_size, lt_size, Nat.reduceLeDiff, Nat.reduceAdd, Nat.reduceSub, Nat.reducePow, Nat.zero_add, decide_eq_true_eq, Nat.reduceLT, gt_iff_lt, ge_iff_le, decide_true, decide_false, Bool.false_eq_true, Bool.or_true, Bool.true_or, Bool.or_false, Bool.false_or, Bool.false_and, Bool.and_false, or_true, true_or, and_true, true_and, or_false, false_or, and_false, false_and, and_self, not_false_eq_true, not_true_eq_false, b_Tree_put, N_Tree_put, fld_nodes, nds_len, le_int, lt_int, h0, h1, eqW_int, h2, fld_blocks, e, eMeth, cls_tw, hcn, hnp, ea]
theorem anew_KA {K : Nat} (hK : 4 ≤ K) : Anew (Sv K) := fun t ks m hw h hl => anew_K hK hw h hl m
theorem put_K : ∀ (n : Nat) {K : Nat}, 5 + n ≤ K → Put (Sv K) n
  | 0, K, h => by
    obtain ⟨k, rfl⟩ : ∃ k, K = k + 1 := ⟨K - 1, by omega⟩
    exact put_of (fun n' e => by omega) (anew_KA (K := k) (by omega)) fun C => Sm_put k C
  | n + 1, K, h => by
    obtain ⟨k, rfl⟩ : ∃ k, K = k + 1 := ⟨K - 1, by omega⟩
    exact put_of (fun n' e => by obtain rfl : n = n' := by omega
                                 exact put_K n (by omega)) (anew_KA (K := k) (by omega)) fun C => Sm_put k C
/-! ### the nodes of a told tree -/
theorem nodes_loop (Γ : Gam) (m : Sto) (v0 : Sl) : ∀ (ks : List T) (acc : List T) (u : Sl), (∀ t ∈ ks, Γ.f 16 [told t] m = .ok (.lst ((nds t).map told)) m) → acc.length + (ndsL ks).length ≤ 16777216 →
    ∃ u', forW (bName 2) (sSet 1 (op2 addW (rVar 1) (eCall 1 (Γ.f 16) [] (aCons (eVar 2) aNil)))) (toldL ks) [v0, .val (.lst (acc.map told)), u] m = .ok (.nx [v0, .val (.lst ((acc ++ ndsL ks).map told)), u']) m
  | [], acc, u, _, _ => ⟨u, by simp [forW, toldL, ndsL, sNil]⟩
  | t :: ks, acc, u, h, hz => by
    have hz1 : acc.length + (nds t).length ≤ 16777216 := by simp [ndsL] at hz; omega
    obtain ⟨u', e⟩ := nodes_loop Γ m v0 ks (acc ++ nds t) (.val (told t)) (fun s hs => h s (List.mem_cons_of_mem _ hs)) (by simp [ndsL] at hz ⊢; omega)
    refine ⟨u', ?_⟩
    have e1 := h t (List.mem_cons_self ..)
    simp (decide := true) only [runB, runI, bnd, lift, exS, sSeq, sSeqF, sNil, sSet, sSetN, sSetL, sIf, sRet, sRetN, sExp, sFor, sExt, sApp, sFrz, sPar, sPar3, sUnp, sSetIx, sBrk, sCnt, eVar, rVar, eC, op1, op2, eCall, eNew, aCons, aNil, aStar, eTup, eL, nLst, nRev, nLc, eBlt, eIf, eAnd, eOr, eNotV, tTru, tBl, tNt, tAn, tOrr, tYesM, truW, blW, eChain, iSeq, itW, iRng, bName, bTup, bAll, eMt, ePush, eJoin, jsW, e1M, e2M, sAug, sSup, sFldS, sTree, wipeS, lenW, tupleW, frzb, toW, clsO, eSl, oSome, oNone, Sm.ret, Sm.bad, List.map_cons, List.map_nil, List.length_cons, List.length_nil, List.cons_append, List.nil_append, List.append_nil, List.replicate_succ, List.replicate_zero, List.set_cons_succ, List.set_cons_zero, List.getElem?_cons_succ, List.getElem?_cons_zero, List.length_append, List.length_map, if_true, if_false, reduceIte, Bool.true_and, Bool.and_true, Bool.not_true, Bool.not_false, Option.map_some, Option.map_none, Option.bind_some, Option.bind_none, le_size, lt_size, Nat.reduceLeDiff, Nat.reduceAdd, Nat.reduceSub, Nat.reducePow, Nat.zero_add, decide_eq_true_eq, Nat.reduceLT, gt_iff_lt, ge_iff_le, decide_true, decide_false, Bool.false_eq_true, Bool.or_true, Bool.true_or, Bool.or_false, Bool.false_or, Bool.false_and, Bool.and_false, or_true, true_or, and_true, true_and, or_false, false_or, and_false, false_and, and_self, not_false_eq_true, not_true_eq_false, forW, toldL, ndsL, addW, e1, hz1]
    simp only [List.map_append, List.append_assoc] at e ⊢
    rw [e]
theorem nodes_step (k : Nat) (m : Sto) (t : T) (hz : cnt t ≤ 16777216) (h : ∀ s ∈ kids t, (Sv (k + 1)).f 16 [told s] m = .ok (.lst ((nds s).map told)) m) : (Sv (k + 2)).f 16 [told t] m = .ok (.lst ((nds t).map told)) m := by
  rw [Sf__law_nodes]
  have hl := nds_len t
  rw [nds_eq] at hl
  simp only [List.length_cons] at hl
  obtain ⟨u', e⟩ := nodes_loop (Sv (k + 1)) m (.val (told t)) (kids t) [t] .un h (by simp only [List.length_cons, List.length_nil]; omega)
  simp only [List.map_cons, List.map_nil] at e
  simp (decide := true) only [runB, runI, bnd, lift, exS, sSeq, sSeqF, sNil, sSet, sSetN, sSetL, sIf, sRet, sRetN, sExp, sFor, sExt, sApp, sFrz, sPar, sPar3, sUnp, sSetIx, sBrk, sCnt, eVar, rVar, eC, op1, op2, eCall, eNew, aCons, aNil, aStar, eTup, eL, nLst, nRev, nLc, eBlt, eIf, eAnd, eOr, eNotV, tTru, tBl, tNt, tAn, tOrr, tYesM, truW, blW, eChain, iSeq, itW, iRng, bName, bTup, bAll, eMt, ePush, eJoin, jsW, e1M, e2M, sAug, sSup, sFldS, sTree, wipeS, lenW, tupleW, frzb, toW, clsO, eSl, oSome, oNone, Sm.ret, Sm.bad, List.map_cons, List.map_nil, List.length_cons, List.length_nil, List.cons_append, List.nil_append, List.append_nil, List.replicate_succ, List.replicate_zero, List.set_cons_succ, List.set_cons_zero, List.getElem?_cons_succ, List.getElem?_cons_zero, List.length_append, List.length_map, if_true, if_false, reduceIte, Bool.true_and, Bool.and_true, Bool.not_true, Bool.not_false, Option.map_some, Option.map_none, Option.bind_some, Option.bind_none, le_size, lt_size, Nat.reduceLeDiff, Nat.reduceAdd, Nat.reduceSub, Nat.reducePow, Nat.zero_add, decide_eq_true_eq, Nat.reduceLT, gt_iff_lt, ge_iff_le, decide_true, decide_false, Bool.false_eq_true, Bool.or_true, Bool.true_or, Bool.or_false, Bool.false_or, Bool.false_and, Bool.and_false, or_true, true_or, and_true, true_and, or_false, false_or, and_false, false_and, and_self, not_false_eq_true, not_true_eq_false, b__law_nodes, N__law_nodes, blocks_ok, e]
  rw [nds_eq]
  rfl
theorem nodes_ok (m : Sto) : ∀ (k : Nat) (t : T), dep t ≤ k → cnt t ≤ 16777216 → (Sv (k + 2)).f 16 [told t] m = .ok (.lst ((nds t).map told)) m
  | 0, t, hd, hz => nodes_step 0 m t hz (by
    intro s hs
    cases t <;> simp [dep] at hd
    cases hs)
  | k + 1, t, hd, hz => nodes_step (k + 1) m t hz fun s hs => nodes_ok m k s (dep_kids hd hs) (by have := cnt_kid hs; omega)
theorem dep_nds {t s : T} : ∀ (n : Nat), dep t ≤ n → s ∈ nds t → dep s ≤ dep t := by
  intro n
  induction n generalizing t with
  | zero =>
    intro h hs
    rw [nds_eq] at hs
    rcases List.mem_cons.mp hs with e | e
    · subst e; exact Nat.le_refl _
    · cases t <;> simp [dep] at h
      simp [kids, ndsL] at e
  | succ n ih =>
    intro h hs
    rw [nds_eq] at hs
    rcases List.mem_cons.mp hs with e | e
    · subst e; exact Nat.le_refl _
    · have key : ∀ ks : List T, (∀ k ∈ ks, dep k ≤ n) → s ∈ ndsL ks → ∃ k ∈ ks, dep s ≤ dep k := by
        intro ks
        induction ks with
        | nil => intro _ h; simp [ndsL] at h
        | cons a r ih2 =>
          intro h1 h2
          simp only [ndsL, List.mem_append] at h2
          rcases h2 with h2 | h2
          · exact ⟨a, List.mem_cons_self .., ih (h1 a (List.mem_cons_self ..)) h2⟩
          · obtain ⟨k, hk, h3⟩ := ih2 (fun z hz => h1 z (List.mem_cons_of_mem _ hz)) h2
            exact ⟨k, List.mem_cons_of_mem _ hk, h3⟩
      have hne : kids t ≠ [] := by
        intro e2
        rw [e2] at e
        simp [ndsL] at e
      have hd := dep_eq t hne
      obtain ⟨k, hk, h3⟩ := key (kids t) (fun k hk => by have := depL_mem hk; omega) e
      have := depL_mem hk
      omega
theorem cnt_nds {t s : T} (h : s ∈ nds t) : cnt s ≤ cnt t := by
  obtain ⟨i, hi⟩ := List.getElem?_of_mem h
  have := fits hi
  omega
/-- for each node the number behind its last one -/
def endsT (t : T) : List W := (nds t).mapIdx fun i s => .int ((i : Int) + (cnt s : Int))
theorem ends_loop {Γ : Gam} (m : Sto) (v0 : Sl) : ∀ (ss : List T) (i : Nat) (acc : List W) (u2 u3 : Sl), (∀ s ∈ ss, Γ.f 16 [told s] m = .ok (.lst ((nds s).map told)) m) → acc.length + ss.length ≤ 100000 →
    ∃ u2' u3', forW (bTup [(bName 2), (bName 3)]) (sApp 1 (op2 addW (rVar 2) (eBlt lenW (aCons (eCall 1 (Γ.f 16) [] (aCons (eVar 3) aNil)) aNil)))) (ss.mapIdx fun j s => .tup [.int ((i + j : Nat) : Int), told s]) [v0, .own (.lst acc), u2, u3] m = .ok (.nx [v0, .own (.lst (acc ++ ss.mapIdx fun j s => .int (((i + j : Nat) : Int) + (cnt s : Int)))), u2', u3']) m
  | [], i, acc, u2, u3, _, _ => ⟨u2, u3, by simp [forW, sNil]⟩
  | s :: ss, i, acc, u2, u3, h, hz => by
    simp only [List.length_cons] at hz
    obtain ⟨u2', u3', e⟩ := ends_loop m v0 ss (i + 1) (acc ++ [.int ((i : Int) + (cnt s : Int))]) (.val (.int (i : Int))) (.val (told s)) (fun z hs => h z (List.mem_cons_of_mem _ hs)) (by simp; omega)
    refine ⟨u2', u3', ?_⟩
    have e1 := h s (List.mem_cons_self ..)
    have h2 : acc.length < 16777216 := by omega
    simp only [List.mapIdx_cons, Nat.add_zero]
    simp (decide := true) only [runB, runI, bnd, lift, exS, sSeq, sSeqF, sNil, sSet, sSetN, sSetL, sIf, sRet, sRetN, sExp, sFor, sExt, sApp, sFrz, sPar, sPar3, sUnp, sSetIx, sBrk, sCnt, eVar, rVar, eC, op1, op2, eCall, eNew, aCons, aNil, aStar, eTup, eL, nLst, nRev, nLc, eBlt, eIf, eAnd, eOr, eNotV, tTru, tBl, tNt, tAn, tOrr, tYesM, truW, blW, eChain, iSeq, itW, iRng, bName, bTup, bAll, eMt, ePush, eJoin, jsW, e1M, e2M, sAug, sSup, sFldS, sTree, wipeS, lenW, tupleW, frzb, toW, clsO, eSl, oSome, oNone, Sm.ret, Sm.bad, List.map_cons, List.map_nil, List.length_cons, List.length_nil, List.cons_append, List.nil_append, List.append_nil, List.replicate_succ, List.replicate_zero, List.set_cons_succ, List.set_cons_zero, List.getElem?_cons_succ, List.getElem?_cons_zero, List.length_append, List.length_map, if_true, if_false, reduceIte, Bool.true_and, Bool.and_true, Bool.not_true, Bool.not_false, Option.map_some, Option.map_none, Option.bind_some, Option.bind_none, le_size, lt_size, Nat.reduceLeDiff, Nat.reduceAdd, Nat.reduceSub, Nat.reducePow, Nat.zero_add, decide_eq_true_eq, Nat.reduceLT, gt_iff_lt, ge_iff_le, decide_true, decide_false, Bool.false_eq_true, Bool.or_true, Bool.true_or, Bool.or_false, Bool.false_or, Bool.false_and, Bool.and_false, or_true, true_or, and_true, true_and, or_false, false_or, and_false, false_and, and_self, not_false_eq_true, not_true_eq_false, forW, e1, nds_len, add_int, h2]
    have hf1 : (fun (j : Nat) (s : T) => W.tup [W.int ((i + (j + 1) : Nat) : Int), told s]) = fun (j : Nat) (s : T) => W.tup [W.int ((i + 1 + j : Nat) : Int), told s] := by
      funext j s
      rw [show i + (j + 1) = i + 1 + j by omega]
    have hf2 : (fun (j : Nat) (s : T) => W.int (((i + (j + 1) : Nat) : Int) + (cnt s : Int))) = fun (j : Nat) (s : T) => W.int (((i + 1 + j : Nat) : Int) + (cnt s : Int)) := by
      funext j s
      rw [show i + (j + 1) = i + 1 + j by omega]
    rw [hf1, hf2, e]
    simp
end Pl

namespace Pl
open PySem PySem.Spec PyProof.Rows L2 Sm
theorem enL_map (ss : List T) : enL (ss.map told) = ss.mapIdx fun j s => .tup [.int ((0 + j : Nat) : Int), told s] := by
  unfold enL
  apply List.ext_getElem?
  intro i
  rw [List.getElem?_mapIdx, List.getElem?_mapIdx, List.getElem?_map, Nat.zero_add]
  cases ss[i]? <;> rfl
theorem ends_K {K : Nat} {n : Nat} (hK : n + 3 ≤ K) {t : T} (hd : dep t ≤ n) (hc : cnt t ≤ 4000) (m : Sto) : (Sv K).f 18 [told t] m = .ok (.lst (endsT t)) m := by
  obtain ⟨k, rfl⟩ : ∃ k, K = k + n + 2 + 1 := ⟨K - n - 3, by omega⟩
  rw [Sf__law_ends]
  have hn : ∀ s : T, dep s ≤ k + n → cnt s ≤ 16777216 → (Sv (k + n + 2)).f 16 [told s] m = .ok (.lst ((nds s).map told)) m := nodes_ok m (k + n)
  generalize Sv (k + n + 2) = Γ at hn ⊢
  have e1 := hn t (by omega) (by omega)
  obtain ⟨u2, u3, e⟩ := ends_loop (Γ := Γ) m (.val (told t)) (nds t) 0 [] .un .un (fun s hs => hn s (by have := dep_nds (n := n) hd hs; omega) (by have := cnt_nds hs; omega)) (by rw [nds_len]; simp; omega)
  rw [← enL_map] at e
  have hz : (endsT t).length ≤ 16777216 := by simp [endsT, nds_len]; omega
  simp (decide := true) only [runB, runI, bnd, lift, exS, sSeq, sSeqF, sNil, sSet, sSetN, sSetL, sIf, sRet, sRetN, sExp, sFor, sExt, sApp, sFrz, sPar, sPar3, sUnp, sSetIx, sBrk, sCnt, eVar, rVar, eC, op1, op2, eCall, eNew, aCons, aNil, aStar, eTup, eL, nLst, nRev, nLc, eBlt, eIf, eAnd, eOr, eNotV, tTru, tBl, tNt, tAn, tOrr, tYesM, truW, blW, eChain, iSeq, itW, iRng, bName, bTup, bAll, eMt, ePush, eJoin, jsW, e1M, e2M, sAug, sSup, sFldS, sTree, wipeS, lenW, tupleW, frzb, toW, clsO, eSl, oSome, oNone, Sm.ret, Sm.bad, List.map_cons, List.map_nil, List.length_cons, List.length_nil, List.cons_append, List.nil_append, List.append_nil, List.replicate_succ, List.replicate_zero, List.set_cons_succ, List.set_cons_zero, List.getElem?_cons_succ, List.getElem?_cons_zero, List.length_append, List.length_map, if_true, if_false, reduceIte, Bool.true_and, Bool.and_true, Bool.not_true, Bool.not_false, Option.map_some, Option.map_none, Option.bind_some, Option.bind_none, le_size, lt_size, Nat.reduceLeDiff, Nat.reduceAdd, Nat.reduceSub, Nat.reducePow, Nat.zero_add, decide_eq_true_eq, Nat.reduceLT, gt_iff_lt, ge_iff_le, decide_true, decide_false, Bool.false_eq_true, Bool.or_true, Bool.true_or, Bool.or_false, Bool.false_or, Bool.false_and, Bool.and_false, or_true, true_or, and_true, true_and, or_false, false_or, and_false, false_and, and_self, not_false_eq_true, not_true_eq_false, b__law_ends, N__law_ends, e1, iEn, e]
  simp [endsT]
theorem ends_at {t s : T} {n : Nat} (hs : (nds t)[n]? = some s) : (endsT t)[n]? = some (.int ((n : Int) + (cnt s : Int))) := by
  unfold endsT
  rw [List.getElem?_mapIdx, hs]
  rfl
/-! ### comprehensions -/
theorem lc_none {bd : Bd} {ft : Ft} {fe : Fe} {τ : SS} {m : Sto} : ∀ xs : List W, (∀ x ∈ xs, ∃ τ1, bd x τ = some τ1 ∧ ft τ1 m = .ok false m) → lcM bd ft fe τ xs m = .ok [] m
  | [], _ => rfl
  | x :: r, h => by
    obtain ⟨τ1, e1, e2⟩ := h x (List.mem_cons_self ..)
    have ih := lc_none (fe := fe) r fun z hz => h z (List.mem_cons_of_mem _ hz)
    simp only [lcM, e1, bnd, e2, Bool.false_eq_true, if_false]
    exact ih
theorem lc_pt {bd : Bd} {fe : Fe} {τ : SS} {m : Sto} : ∀ (xs ys : List W), xs.length = ys.length → (∀ (i : Nat) (x y : W), xs[i]? = some x → ys[i]? = some y → ∃ τ1, bd x τ = some τ1 ∧ fe τ1 m = .ok y m) → lcM bd tYesM fe τ xs m = .ok ys m
  | [], [], _, _ => rfl
  | [], _ :: _, h, _ => by simp at h
  | _ :: _, [], h, _ => by simp at h
  | x :: r, y :: ys, hl, h => by
    obtain ⟨τ1, e1, e2⟩ := h 0 x y rfl rfl
    have ih := lc_pt (bd := bd) (fe := fe) (τ := τ) (m := m) r ys (by simpa using hl) fun i a b ha hb => h (i + 1) a b (by simpa using ha) (by simpa using hb)
    simp only [lcM, e1, bnd, tYesM, if_true, e2, ih]
    rfl
theorem ne_ints (cs : List Int) (m : Sto) : neW (.lst (cs.map .int)) (.lst (cs.map .int)) m = some (.bl false) := by
  have h1 := lay_int cs
  have h2 := depth_int cs
  have h4 : ∀ cs : List Int, PyData.eqvAll (cs.map PyData.int) (cs.map PyData.int) = true := by
    intro cs
    induction cs with
    | nil => rfl
    | cons c cs ih => simp [PyData.eqvAll, PyData.eqv, ih]
  simp [neW, eqB, deref, toD, toDs_int, SeqAt.shaped, PyData.canLay0, PyData.depth, PyData.eqv, h4, h1]
  omega
theorem ne_nil (m : Sto) : neW (.lst []) (.lst []) m = some (.bl false) := ne_ints [] m
/-! ### what is made is good -/
mutual
theorem wf_put : ∀ (t : T) (i : Nat) (o : T), Wf t → Wf o → Wf (putT t i o)
  | t, 0, o, h, ho => by rw [putT_0]; exact ho
  | .leaf d x, i + 1, o, h, ho => h
  | .many r k ks, i + 1, o, h, ho => wf_putL ks i o h ho
  | .beside n ks, i + 1, o, h, ho => ⟨h.1, by rw [putL_len]; exact h.2.1, wf_putL ks i o h.2.2 ho⟩
  | .again r t, i + 1, o, h, ho => ⟨h.1, wf_put t i o h.2 ho⟩
  | .grd w x t, i + 1, o, h, ho => ⟨h.1, wf_put t i o h.2 ho⟩
  | .nt t, i + 1, o, h, ho => wf_put t i o h ho
  | .alw w t, i + 1, o, h, ho => wf_put t i o h ho
theorem wf_putL : ∀ (ks : List T) (i : Nat) (o : T), WfL ks → Wf o → WfL (putL ks i o)
  | [], i, o, h, ho => trivial
  | k :: ks, i, o, h, ho => by
    unfold putL
    split
    · exact ⟨wf_put k i o h.1 ho, h.2⟩
    · exact ⟨h.1, wf_putL ks _ o h.2 ho⟩
end
mutual
theorem dep_put : ∀ (t : T) (i : Nat) (o : T), dep (putT t i o) ≤ dep t + dep o
  | t, 0, o => by rw [putT_0]; omega
  | .leaf d x, i + 1, o => by simp [putT, dep]
  | .many r k ks, i + 1, o => by have := dep_putL ks i o; simp [putT, dep]; omega
  | .beside n ks, i + 1, o => by have := dep_putL ks i o; simp [putT, dep]; omega
  | .again r t, i + 1, o => by have := dep_put t i o; simp [putT, dep]; omega
  | .grd w x t, i + 1, o => by have := dep_put t i o; simp [putT, dep]; omega
  | .nt t, i + 1, o => by have := dep_put t i o; simp [putT, dep]; omega
  | .alw w t, i + 1, o => by have := dep_put t i o; simp [putT, dep]; omega
theorem dep_putL : ∀ (ks : List T) (i : Nat) (o : T), depL (putL ks i o) ≤ depL ks + dep o
  | [], i, o => by simp [putL, depL]
  | k :: ks, i, o => by
    have h1 := dep_put k i o
    have h2 := dep_putL ks (i - cnt k) o
    unfold putL
    split <;> simp only [depL] <;> omega
end
theorem wf_nds {t s : T} : ∀ (n : Nat), dep t ≤ n → Wf t → s ∈ nds t → Wf s := by
  intro n
  induction n generalizing t with
  | zero =>
    intro h hw hs
    rw [nds_eq] at hs
    rcases List.mem_cons.mp hs with e | e
    · subst e; exact hw
    · cases t <;> simp [dep] at h
      simp [kids, ndsL] at e
  | succ n ih =>
    intro h hw hs
    rw [nds_eq] at hs
    rcases List.mem_cons.mp hs with e | e
    · subst e; exact hw
    · have key : ∀ ks : List T, (∀ k ∈ ks, dep k ≤ n) → WfL ks → s ∈ ndsL ks → Wf s := by
        intro ks
        induction ks with
        | nil => intro _ _ h; simp [ndsL] at h
        | cons a r ih2 =>
          intro h1 hw2 h2
          simp only [ndsL, List.mem_append] at h2
          rcases h2 with h2 | h2
          · exact ih (h1 a (List.mem_cons_self ..)) hw2.1 h2
          · exact ih2 (fun z hz => h1 z (List.mem_cons_of_mem _ hz)) hw2.2 h2
      have hne : kids t ≠ [] := by
        intro e2
        rw [e2] at e
        simp [ndsL] at e
      have hd := dep_eq t hne
      exact key (kids t) (fun k hk => by have := depL_mem hk; omega) (wf_kidsL hw) e
end Pl

namespace Pl
open PySem PySem.Spec PyProof.Rows L2 Sm
structure F9 (Γ : Gam) : Prop where
  grown : Gr Γ 9
  draw : Draw Γ
  pick : Pick Γ
  mak : ∀ (t : T) (m : Sto), Gd t → dep t ≤ 9 → Γ.f 17 [told t] m = .ok (tw t) m
  ends : ∀ (t : T) (m : Sto), dep t ≤ 9 → cnt t ≤ 4000 → Γ.f 18 [told t] m = .ok (.lst (endsT t)) m
  put : Put Γ 30
  item : ∀ (t s : T) (i : Int) (n : Nat) (m : Sto), i = n → (nds t)[n]? = some s → itemM Tt (Γ.m 8) (tw t) (.int i) m = .ok (tw s) m
  len : ∀ (t : T) (c : Int) (m : Sto), cnt t ≤ 100000 → c = cnt t → lenM Tt (Γ.m 7) (tw t) m = .ok (.int c) m
  eq : ∀ (a : T) (m : Sto), Gd a → opM Tt (Γ.m 5) (tw a) (tw a) m = .ok (.bl true) m
theorem f9_K {K : Nat} (hK : 40 ≤ K) : F9 (Sv K) := by
  refine ⟨grown_K 9 (by omega), draw_K (by omega), pick_K (by omega), fun t m h hd => ?_, fun t m hd hc => ends_K (n := 9) (by omega) hd hc m, put_K 30 (by omega), fun t s i n m hi hs => item_K (by omega) hi hs m, fun t c m h e => by rw [e]; exact len_K (by omega) h m, fun a m h => eq_K (by omega) h m⟩
  obtain ⟨k, rfl⟩ : ∃ k, K = k + 4 := ⟨K - 4, by omega⟩
  exact make_ok m k t h.wf (by omega) h.z
theorem notM_F {Γ : Str → List W → M W} {x y : W} {m : Sto} (e : opM Tt Γ x y m = .ok (.bl true) m) : notM Tt Γ x y m = .ok (.bl false) m := by
  show bnd (opM Tt Γ x y) _ m = _
  simp only [bnd, e]
  rfl
theorem endsT_len (t : T) : (endsT t).length = cnt t := by simp [endsT, nds_len]
theorem meth_put {Γ : Gam} {n : Nat} (H : Put Γ n) (t o : T) (i : Int) (j : Nat) (m : Sto) (hi : i = j) (hj : j < cnt t) (hd : dep t ≤ n) (hw : Wf t) (ho : Wf o) (hz : cnt t + cnt o ≤ 100000) {τ : SS} {fo : Fe} {g : Fas} (e1 : fo τ m = .ok (tw t) m) (e2 : g τ m = .ok [.int i, tw o] m) : eMeth "put" Tt 3 [] (Γ.m 9) fo g τ m = .ok (tw (putT t j o)) m := by
  have e3 := H t o i j m hi hj hd hw ho hz
  have hcn := tn_in t
  have hnp := no_put t
  simp (decide := true) only [runB, runI, bnd, lift, exS, sSeq, sSeqF, sNil, sSet, sSetN, sSetL, sIf, sRet, sRetN, sExp, sFor, sExt, sApp, sFrz, sPar, sPar3, sUnp, sSetIx, sBrk, sCnt, eVar, rVar, eC, op1, op2, eCall, eNew, aCons, aNil, aStar, eTup, eL, nLst, nRev, nLc, eBlt, eIf, eAnd, eOr, eNotV, tTru, tBl, tNt, tAn, tOrr, tYesM, truW, blW, eChain, iSeq, itW, iRng, bName, bTup, bAll, eMt, ePush, eJoin, jsW, e1M, e2M, sAug, sSup, sFldS, sTree, wipeS, lenW, tupleW, frzb, toW, clsO, eSl, oSome, oNone, Sm.ret, Sm.bad, List.map_cons, List.map_nil, List.length_cons, List.length_nil, List.cons_append, List.nil_append, List.append_nil, List.replicate_succ, List.replicate_zero, List.set_cons_succ, List.set_cons_zero, List.getElem?_cons_succ, List.getElem?_cons_zero, List.length_append, List.length_map, if_true, if_false, reduceIte, Bool.true_and, Bool.and_true, Bool.not_true, Bool.not_false, Option.map_some, Option.map_none, Option.bind_some, Option.bind_none, le_size, lt_size, Nat.reduceLeDiff, Nat.reduceAdd, Nat.reduceSub, Nat.reducePow, Nat.zero_add, decide_eq_true_eq, Nat.reduceLT, gt_iff_lt, ge_iff_le, decide_true, decide_false, Bool.false_eq_true, Bool.or_true, Bool.true_or, Bool.or_false, Bool.false_or, Bool.false_and, Bool.and_false, or_true, true_or, and_true, true_and, or_false, false_or, and_false, false_and, and_self, not_false_eq_true, not_true_eq_false, eMeth, e1, e2, cls_tw, hcn, hnp, e3]
noncomputable abbrev inB9 (Γ : Gam) : Fs := (sSeq (sSet 10 (eCall 2 (Γ.f 8) [] (aCons (eVar 1) (aCons (eBlt lenW (aCons (rVar 7) aNil)) aNil))))
    (sSeq (sSet 11 (eMeth "put" Tt 3 [] (Γ.m 9) (eVar 6) (aCons (eVar 10) (aCons (eVar 8) aNil))))
    (sSeq (sIf (tOrr (tBl (e2M (notM Tt (Γ.m 5)) (e2M (itemM Tt (Γ.m 8)) (eVar 11) (eVar 10)) (eVar 8))) (tBl (op2 neW (e1M (lenM Tt (Γ.m 7)) (eVar 11)) (op2 addW (op2 subW (e1M (lenM Tt (Γ.m 7)) (eVar 6)) (e1M (lenM Tt (Γ.m 7)) (e2M (itemM Tt (Γ.m 8)) (eVar 6) (eVar 10)))) (e1M (lenM Tt (Γ.m 7)) (eVar 8)))))) (sRet (eC (.bl false))) sNil)
    (sSeq (sIf (tBl (e2M (notM Tt (Γ.m 5)) (eMeth "put" Tt 3 [] (Γ.m 9) (eVar 11) (aCons (eVar 10) (aCons (e2M (itemM Tt (Γ.m 8)) (eVar 6) (eVar 10)) aNil))) (eVar 6))) (sRet (eC (.bl false))) sNil)
    (sSeq (sSet 12 (op2 subW (e1M (lenM Tt (Γ.m 7)) (eVar 8)) (e1M (lenM Tt (Γ.m 7)) (e2M (itemM Tt (Γ.m 8)) (eVar 6) (eVar 10)))))
    (sSeq (sIf (tBl (op2 neW (eL (nLc (iRng rng2 (aCons (op2 ixW (rVar 7) (rVar 10)) (aCons (e1M (lenM Tt (Γ.m 7)) (eVar 6)) aNil))) [17] (bName 17) (tBl (e2M (notM Tt (Γ.m 5)) (e2M (itemM Tt (Γ.m 8)) (eVar 11) (op2 addW (rVar 17) (rVar 12))) (e2M (itemM Tt (Γ.m 8)) (eVar 6) (eVar 17)))) (eVar 17))) (eL (nLst aNil)))) (sRet (eC (.bl false))) sNil)
    (sSeq (sIf (tBl (op2 neW (eL (nLc (iRng rng1 (aCons (eVar 10) aNil)) [17] (bName 17) (tAn (tBl (op2 (cmpI fun i j => decide (i ≤ j)) (op2 ixW (rVar 7) (rVar 17)) (rVar 10))) (tBl (e2M (notM Tt (Γ.m 5)) (e2M (itemM Tt (Γ.m 8)) (eVar 11) (eVar 17)) (e2M (itemM Tt (Γ.m 8)) (eVar 6) (eVar 17))))) (eVar 17))) (eL (nLst aNil)))) (sRet (eC (.bl false))) sNil)
    (sSeq (sSet 13 (op2 addW (op2 ixW (rVar 7) (rVar 10)) (eCall 2 (Γ.f 8) [] (aCons (eVar 1) (aCons (op2 addW (op2 subW (e1M (lenM Tt (Γ.m 7)) (eVar 6)) (op2 ixW (rVar 7) (rVar 10))) (eC (.int 1))) aNil)))))
    (sIf (tBl (op2 (cmpI fun i j => decide (i < j)) (rVar 13) (e1M (lenM Tt (Γ.m 7)) (eVar 6)))) (sSeq (sSet 14 (eMeth "put" Tt 3 [] (Γ.m 9) (eMeth "put" Tt 3 [] (Γ.m 9) (eVar 6) (aCons (eVar 13) (aCons (eVar 9) aNil))) (aCons (eVar 10) (aCons (eVar 8) aNil))))
    (sSeq (sSet 15 (op2 addW (rVar 13) (rVar 12)))
    (sSeq (sIf (tBl (e2M (notM Tt (Γ.m 5)) (eMeth "put" Tt 3 [] (Γ.m 9) (eVar 11) (aCons (eVar 15) (aCons (eVar 9) aNil))) (eVar 14))) (sRet (eC (.bl false))) sNil)
    (sSeq (sSet 16 (op2 addW (op2 subW (e1M (lenM Tt (Γ.m 7)) (eVar 11)) (e1M (lenM Tt (Γ.m 7)) (e2M (itemM Tt (Γ.m 8)) (eVar 6) (eVar 13)))) (e1M (lenM Tt (Γ.m 7)) (eVar 9))))
    (sIf (tBl (op2 neW (e1M (lenM Tt (Γ.m 7)) (eVar 14)) (rVar 16))) (sRet (eC (.bl false))) sNil))))) sNil)))))))))
theorem inner9 {Γ : Gam} (H : F9 Γ) {t o p : T} (gt : Gd t) (go : Gd o) (gp : Gd p) (ht : cnt t ≤ 100) (ho : cnt o ≤ 100) (hp : cnt p ≤ 100) (dt : dep t ≤ 9) (do_ : dep o ≤ 9) (dp : dep p ≤ 9) (v0 u2 v3 : Sl) (w : W) (u5 u10 u11 u12 u13 u14 u15 u16 u17 u18 : Sl) (r m : Sto) (h : DD r m) :
    ∃ (u10' u11' u12' u13' u14' u15' u16' : Sl) (m' : Sto), inB9 Γ [v0, .val (.ref 1), u2, v3, .val w, u5, .val (tw t), .val (.lst (endsT t)), .val (tw o), .val (tw p), u10, u11, u12, u13, u14, u15, u16, u17, u18] m = .ok (.nx [v0, .val (.ref 1), u2, v3, .val w, u5, .val (tw t), .val (.lst (endsT t)), .val (tw o), .val (tw p), u10', u11', u12', u13', u14', u15', u16', u17, u18]) m' ∧ DD r m' := by
  have cpt := cnt_pos t
  obtain ⟨ct, hct⟩ : ∃ ct : Int, ct = cnt t := ⟨_, rfl⟩
  obtain ⟨co, hco⟩ : ∃ co : Int, co = cnt o := ⟨_, rfl⟩
  obtain ⟨cp, hcp⟩ : ∃ cp : Int, cp = cnt p := ⟨_, rfl⟩
  obtain ⟨a, m1, e1, a0, a1, g1⟩ := H.draw _ _ h ((endsT t).length : Int) (by rw [endsT_len]; omega) (by rw [endsT_len]; omega)
  rw [endsT_len] at a1
  obtain ⟨n, ha⟩ : ∃ n : Nat, a = n := ⟨a.toNat, by omega⟩
  have hn : n < cnt t := by omega
  obtain ⟨s, pre, pre', post, q⟩ := shp t n o hn
  have hs := q.at_
  have hat := q.at'
  obtain ⟨cs, hcs⟩ : ∃ cs : Int, cs = cnt s := ⟨_, rfl⟩
  have cps := cnt_pos s
  have cpo := cnt_pos o
  have cpp := cnt_pos p
  have hfit := fits hs
  have hcu := cnt_put (o := o) hs
  have hback := put_back t n o s hs
  have ms : s ∈ nds t := List.mem_of_getElem? hs
  have gs : Gd s := ⟨wf_nds 9 dt gt.wf ms, by have := cnt_nds ms; omega⟩
  have wu := wf_put t n o gt.wf go.wf
  have du := dep_put t n o
  obtain ⟨u, hu⟩ : ∃ u, u = putT t n o := ⟨_, rfl⟩
  rw [← hu] at q hat hcu hback wu du
  obtain ⟨cu, hcuI⟩ : ∃ cu : Int, cu = cnt u := ⟨_, rfl⟩
  obtain ⟨E, hE⟩ : ∃ E : Int, E = a + cs := ⟨_, rfl⟩
  have eE : atI (endsT t) a = some (.int E) := by
    rw [ha, atI_nat (ends_at hs), hE, ha, hcs]
  have pu1 : ∀ m, Γ.m 9 (tn t) [tw t, .int a, tw o] m = .ok (tw u) m := fun m => by rw [hu]; exact H.put t o a n m ha hn (by omega) gt.wf go.wf (by omega)
  have pu2 : ∀ m, Γ.m 9 (tn u) [tw u, .int a, tw s] m = .ok (tw t) m := fun m => (H.put u s a n m ha (by omega) (by omega) wu gs.wf (by omega)).trans (by rw [hback])
  have i1 : ∀ m, itemM Tt (Γ.m 8) (tw u) (.int a) m = .ok (tw o) m := fun m => H.item u o a n m ha hat
  have i2 : ∀ m, itemM Tt (Γ.m 8) (tw t) (.int a) m = .ok (tw s) m := fun m => H.item t s a n m ha hs
  have l1 : ∀ m, lenM Tt (Γ.m 7) (tw u) m = .ok (.int cu) m := fun m => H.len u cu m (by omega) hcuI
  have l2 : ∀ m, lenM Tt (Γ.m 7) (tw t) m = .ok (.int ct) m := fun m => H.len t ct m (by omega) hct
  have l3 : ∀ m, lenM Tt (Γ.m 7) (tw s) m = .ok (.int cs) m := fun m => H.len s cs m (by have := gs.c; omega) hcs
  have l4 : ∀ m, lenM Tt (Γ.m 7) (tw o) m = .ok (.int co) m := fun m => H.len o co m (by omega) hco
  have l5 : ∀ m, lenM Tt (Γ.m 7) (tw p) m = .ok (.int cp) m := fun m => H.len p cp m (by omega) hcp
  have n1 : ∀ m, notM Tt (Γ.m 5) (tw o) (tw o) m = .ok (.bl false) m := fun m => notM_F (H.eq o m go)
  have n2 : ∀ m, notM Tt (Γ.m 5) (tw t) (tw t) m = .ok (.bl false) m := fun m => notM_F (H.eq t m gt)
  have x1 : ct - cs + co = cu := by omega
  -- the nodes behind
  have f1 : ∀ (τ : SS) (fe : Fe), τ.length = 19 → τ[6]? = some (.val (tw t)) → τ[11]? = some (.val (tw u)) → τ[12]? = some (.val (.int (co - cs))) → lcM (bName 17) (tBl (e2M (notM Tt (Γ.m 5)) (e2M (itemM Tt (Γ.m 8)) (eVar 11) (op2 addW (rVar 17) (rVar 12))) (e2M (itemM Tt (Γ.m 8)) (eVar 6) (eVar 17)))) fe τ ((List.range (ct - E).toNat).map fun k : Nat => .int (E + k)) m1 = .ok [] m1 := fun τ fe hl h6 h11 h12 => lc_none _ fun x hx => by
    obtain ⟨k, hk, rfl⟩ := List.mem_map.mp hx
    have hk2 : k < (ct - E).toNat := List.mem_range.mp hk
    have hv : ∃ v, (nds t)[n + cnt s + k]? = some v := ⟨(nds t)[n + cnt s + k]'(by rw [nds_len]; omega), by simp [nds_len]⟩
    obtain ⟨v, hv⟩ := hv
    have hv2 := q.hi k
    rw [hv] at hv2
    have mv : v ∈ nds t := List.mem_of_getElem? hv
    have gv : Gd v := ⟨wf_nds 9 dt gt.wf mv, by have := cnt_nds mv; omega⟩
    obtain ⟨x, hx⟩ : ∃ x : Int, x = E + k := ⟨_, rfl⟩
    rw [← hx]
    have j1 := H.item u v (x + (co - cs)) (n + cnt o + k) m1 (by omega) hv2
    have j2 := H.item t v x (n + cnt s + k) m1 (by omega) hv
    have j3 := notM_F (H.eq v m1 gv)
    have s6 : (τ.set 17 (.val (.int x)))[6]? = some (.val (tw t)) := by rw [List.getElem?_set_ne (by decide)]; exact h6
    have s11 : (τ.set 17 (.val (.int x)))[11]? = some (.val (tw u)) := by rw [List.getElem?_set_ne (by decide)]; exact h11
    have s12 : (τ.set 17 (.val (.int x)))[12]? = some (.val (.int (co - cs))) := by rw [List.getElem?_set_ne (by decide)]; exact h12
    have s17 : (τ.set 17 (.val (.int x)))[17]? = some (.val (.int x)) := by simp [hl]
    exact ⟨τ.set 17 (.val (.int x)), rfl, by simp (decide := true) only [runB, runI, bnd, lift, exS, sSeq, sSeqF, sNil, sSet, sSetN, sSetL, sIf, sRet, sRetN, sExp, sFor, sExt, sApp, sFrz, sPar, sPar3, sUnp, sSetIx, sBrk, sCnt, eVar, rVar, eC, op1, op2, eCall, eNew, aCons, aNil, aStar, eTup, eL, nLst, nRev, nLc, eBlt, eIf, eAnd, eOr, eNotV, tTru, tBl, tNt, tAn, tOrr, tYesM, truW, blW, eChain, iSeq, itW, iRng, bName, bTup, bAll, eMt, ePush, eJoin, jsW, e1M, e2M, sAug, sSup, sFldS, sTree, wipeS, lenW, tupleW, frzb, toW, clsO, eSl, oSome, oNone, Sm.ret, Sm.bad, List.map_cons, List.map_nil, List.length_cons, List.length_nil, List.cons_append, List.nil_append, List.append_nil, List.replicate_succ, List.replicate_zero, List.set_cons_succ, List.set_cons_zero, List.getElem?_cons_succ, List.getElem?_cons_zero, List.length_append, List.length_map, if_true, if_false, reduceIte, Bool.true_and, Bool.and_true, Bool.not_true, Bool.not_false, Option.map_some, Option.map_none, Option.bind_some, Option.bind_none, le_size, lt_size, Nat.reduceLeDiff, Nat.reduceAdd, Nat.reduceSub, Nat.reducePow, Nat.zero_add, decide_eq_true_eq, Nat.reduceLT, gt_iff_lt, ge_iff_le, decide_true, decide_false, Bool.false_eq_true, Bool.or_true, Bool.true_or, Bool.or_false, Bool.false_or, Bool.false_and, Bool.and_false, or_true, true_or, and_true, true_and, or_false, false_or, and_false, false_and, and_self, not_false_eq_true, not_true_eq_false, s6, s11, s12, s17, add_int, j1, j2, j3]⟩
  -- the nodes ahead
  have f2 : ∀ (τ : SS) (fe : Fe), τ.length = 19 → τ[6]? = some (.val (tw t)) → τ[7]? = some (.val (.lst (endsT t))) → τ[10]? = some (.val (.int a)) → τ[11]? = some (.val (tw u)) → lcM (bName 17) (tAn (tBl (op2 (cmpI fun i j => decide (i ≤ j)) (op2 ixW (rVar 7) (rVar 17)) (rVar 10))) (tBl (e2M (notM Tt (Γ.m 5)) (e2M (itemM Tt (Γ.m 8)) (eVar 11) (eVar 17)) (e2M (itemM Tt (Γ.m 8)) (eVar 6) (eVar 17))))) fe τ ((List.range a.toNat).map fun k : Nat => .int k) m1 = .ok [] m1 := fun τ fe hl h6 h7 h10 h11 => lc_none _ fun x hx => by
    obtain ⟨k, hk, rfl⟩ := List.mem_map.mp hx
    have hk2 : k < a.toNat := List.mem_range.mp hk
    have hv : ∃ v, (nds t)[k]? = some v := ⟨(nds t)[k]'(by rw [nds_len]; omega), by simp [nds_len]⟩
    obtain ⟨v, hv⟩ := hv
    have mv : v ∈ nds t := List.mem_of_getElem? hv
    have gv : Gd v := ⟨wf_nds 9 dt gt.wf mv, by have := cnt_nds mv; omega⟩
    obtain ⟨x, hx⟩ : ∃ x : Int, x = k := ⟨_, rfl⟩
    rw [← hx]
    obtain ⟨y, hy⟩ : ∃ y : Int, y = x + cnt v := ⟨_, rfl⟩
    have ea : atI (endsT t) x = some (.int y) := by rw [hx, atI_nat (ends_at hv), hy, hx]
    have s6 : (τ.set 17 (.val (.int x)))[6]? = some (.val (tw t)) := by rw [List.getElem?_set_ne (by decide)]; exact h6
    have s7 : (τ.set 17 (.val (.int x)))[7]? = some (.val (.lst (endsT t))) := by rw [List.getElem?_set_ne (by decide)]; exact h7
    have s10 : (τ.set 17 (.val (.int x)))[10]? = some (.val (.int a)) := by rw [List.getElem?_set_ne (by decide)]; exact h10
    have s11 : (τ.set 17 (.val (.int x)))[11]? = some (.val (tw u)) := by rw [List.getElem?_set_ne (by decide)]; exact h11
    have s17 : (τ.set 17 (.val (.int x)))[17]? = some (.val (.int x)) := by simp [hl]
    refine ⟨τ.set 17 (.val (.int x)), rfl, ?_⟩
    by_cases hle : y ≤ a
    · have hv2 := q.lo (k := k) (u := v) (by omega) hv (by omega)
      have j1 := H.item u v x k m1 hx hv2
      have j2 := H.item t v x k m1 hx hv
      have j3 := notM_F (H.eq v m1 gv)
      simp (decide := true) only [runB, runI, bnd, lift, exS, sSeq, sSeqF, sNil, sSet, sSetN, sSetL, sIf, sRet, sRetN, sExp, sFor, sExt, sApp, sFrz, sPar, sPar3, sUnp, sSetIx, sBrk, sCnt, eVar, rVar, eC, op1, op2, eCall, eNew, aCons, aNil, aStar, eTup, eL, nLst, nRev, nLc, eBlt, eIf, eAnd, eOr, eNotV, tTru, tBl, tNt, tAn, tOrr, tYesM, truW, blW, eChain, iSeq, itW, iRng, bName, bTup, bAll, eMt, ePush, eJoin, jsW, e1M, e2M, sAug, sSup, sFldS, sTree, wipeS, lenW, tupleW, frzb, toW, clsO, eSl, oSome, oNone, Sm.ret, Sm.bad, List.map_cons, List.map_nil, List.length_cons, List.length_nil, List.cons_append, List.nil_append, List.append_nil, List.replicate_succ, List.replicate_zero, List.set_cons_succ, List.set_cons_zero, List.getElem?_cons_succ, List.getElem?_cons_zero, List.length_append, List.length_map, if_true, if_false, reduceIte, Bool.true_and, Bool.and_true, Bool.not_true, Bool.not_false, Option.map_some, Option.map_none, Option.bind_some, Option.bind_none, le_size, lt_size, Nat.reduceLeDiff, Nat.reduceAdd, Nat.reduceSub, Nat.reducePow, Nat.zero_add, decide_eq_true_eq, Nat.reduceLT, gt_iff_lt, ge_iff_le, decide_true, decide_false, Bool.false_eq_true, Bool.or_true, Bool.true_or, Bool.or_false, Bool.false_or, Bool.false_and, Bool.and_false, or_true, true_or, and_true, true_and, or_false, false_or, and_false, false_and, and_self, not_false_eq_true, not_true_eq_false, s6, s7, s10, s11, s17, ixW, ea, le_int, hle, j1, j2, j3]
    · simp (decide := true) only [runB, runI, bnd, lift, exS, sSeq, sSeqF, sNil, sSet, sSetN, sSetL, sIf, sRet, sRetN, sExp, sFor, sExt, sApp, sFrz, sPar, sPar3, sUnp, sSetIx, sBrk, sCnt, eVar, rVar, eC, op1, op2, eCall, eNew, aCons, aNil, aStar, eTup, eL, nLst, nRev, nLc, eBlt, eIf, eAnd, eOr, eNotV, tTru, tBl, tNt, tAn, tOrr, tYesM, truW, blW, eChain, iSeq, itW, iRng, bName, bTup, bAll, eMt, ePush, eJoin, jsW, e1M, e2M, sAug, sSup, sFldS, sTree, wipeS, lenW, tupleW, frzb, toW, clsO, eSl, oSome, oNone, Sm.ret, Sm.bad, List.map_cons, List.map_nil, List.length_cons, List.length_nil, List.cons_append, List.nil_append, List.append_nil, List.replicate_succ, List.replicate_zero, List.set_cons_succ, List.set_cons_zero, List.getElem?_cons_succ, List.getElem?_cons_zero, List.length_append, List.length_map, if_true, if_false, reduceIte, Bool.true_and, Bool.and_true, Bool.not_true, Bool.not_false, Option.map_some, Option.map_none, Option.bind_some, Option.bind_none, le_size, lt_size, Nat.reduceLeDiff, Nat.reduceAdd, Nat.reduceSub, Nat.reducePow, Nat.zero_add, decide_eq_true_eq, Nat.reduceLT, gt_iff_lt, ge_iff_le, decide_true, decide_false, Bool.false_eq_true, Bool.or_true, Bool.true_or, Bool.or_false, Bool.false_or, Bool.false_and, Bool.and_false, or_true, true_or, and_true, true_and, or_false, false_or, and_false, false_and, and_self, not_false_eq_true, not_true_eq_false, s6, s7, s10, s11, s17, ixW, ea, le_int, hle]
  have r2 : rng2 [.int E, .int ct] = some ((List.range (ct - E).toNat).map fun k : Nat => .int (E + k)) := by
    simp only [rng2]
    rw [if_pos ⟨by omega, by omega⟩]
  have r1 : rng1 [.int a] = some ((List.range a.toNat).map fun k : Nat => .int k) := by
    simp only [rng1]
    rw [if_pos (by omega)]
  obtain ⟨b, m2, e2, b0, b1, g2⟩ := H.draw _ _ g1 (ct - E + 1) (by omega) (by omega)
  have y0 := ne_int cu
  by_cases hlt : E + b < ct
  · obtain ⟨lt, hlt2⟩ : ∃ lt : Int, lt = E + b := ⟨_, rfl⟩
    rw [← hlt2] at hlt
    obtain ⟨j, hj⟩ : ∃ j : Nat, lt = j := ⟨lt.toNat, by omega⟩
    have hjt : j < cnt t := by omega
    obtain ⟨s2, pr2, pr2', po2, q2⟩ := shp t j p hjt
    have hs2 := q2.at_
    have hfit2 := fits hs2
    have hcv := cnt_put (o := p) hs2
    have fv := fits q2.at'
    have wv := wf_put t j p gt.wf gp.wf
    have dv := dep_put t j p
    obtain ⟨v, hv⟩ : ∃ v, v = putT t j p := ⟨_, rfl⟩
    have hcomm := put_comm t n j o p s hs (by omega) hjt
    rw [← hv, ← hu] at hcomm
    rw [← hv] at hcv fv wv dv
    have hs2u : (nds u)[j + cnt o - cnt s]? = some s2 := by
      have z := q.hi (j - (n + cnt s))
      rw [show n + cnt s + (j - (n + cnt s)) = j by omega, hs2, show n + cnt o + (j - (n + cnt s)) = j + cnt o - cnt s by omega] at z
      exact z
    have hcb := cnt_put (o := p) hs2u
    have wb := wf_put u (j + cnt o - cnt s) p wu gp.wf
    have cps2 := cnt_pos s2
    have ms2 : s2 ∈ nds t := List.mem_of_getElem? hs2
    obtain ⟨bo, hbo⟩ : ∃ bo, bo = putT u (j + cnt o - cnt s) p := ⟨_, rfl⟩
    rw [← hbo] at hcomm hcb wb
    have gb : Gd bo := ⟨wb, by omega⟩
    obtain ⟨cs2, hcs2⟩ : ∃ cs2 : Int, cs2 = cnt s2 := ⟨_, rfl⟩
    obtain ⟨cb, hcbI⟩ : ∃ cb : Int, cb = cnt bo := ⟨_, rfl⟩
    obtain ⟨sh, hsh⟩ : ∃ sh : Int, sh = lt + (co - cs) := ⟨_, rfl⟩
    have pu3 : ∀ m, Γ.m 9 (tn t) [tw t, .int lt, tw p] m = .ok (tw v) m := fun m => by rw [hv]; exact H.put t p lt j m hj hjt (by omega) gt.wf gp.wf (by omega)
    have pu4 : ∀ m, Γ.m 9 (tn v) [tw v, .int a, tw o] m = .ok (tw bo) m := fun m => (H.put v o a n m ha (by omega) (by omega) wv go.wf (by omega)).trans (by rw [hcomm])
    have pu5 : ∀ m, Γ.m 9 (tn u) [tw u, .int sh, tw p] m = .ok (tw bo) m := fun m => by rw [hbo]; exact H.put u p sh (j + cnt o - cnt s) m (by omega) (by omega) (by omega) wu gp.wf (by omega)
    have i3 : ∀ m, itemM Tt (Γ.m 8) (tw t) (.int lt) m = .ok (tw s2) m := fun m => H.item t s2 lt j m hj hs2
    have l6 : ∀ m, lenM Tt (Γ.m 7) (tw s2) m = .ok (.int cs2) m := fun m => H.len s2 cs2 m (by have := cnt_nds ms2; omega) hcs2
    have l7 : ∀ m, lenM Tt (Γ.m 7) (tw bo) m = .ok (.int cb) m := fun m => H.len bo cb m (by omega) hcbI
    have n3 : ∀ m, notM Tt (Γ.m 5) (tw bo) (tw bo) m = .ok (.bl false) m := fun m => notM_F (H.eq bo m gb)
    have x2 : cu - cs2 + cp = cb := by omega
    have y1 := ne_int cb
    refine ⟨.val (.int a), .val (tw u), .val (.int (co - cs)), .val (.int lt), .val (tw bo), .val (.int sh), .val (.int cb), m2, ?_, g2⟩
    simp only [inB9]
    simp (decide := true) only [runB, runI, bnd, lift, exS, sSeq, sSeqF, sNil, sSet, sSetN, sSetL, sIf, sRet, sRetN, sExp, sFor, sExt, sApp, sFrz, sPar, sPar3, sUnp, sSetIx, sBrk, sCnt, eVar, rVar, eC, op1, op2, eCall, eNew, aCons, aNil, aStar, eTup, eL, nLst, nRev, nLc, eBlt, eIf, eAnd, eOr, eNotV, tTru, tBl, tNt, tAn, tOrr, tYesM, truW, blW, eChain, iSeq, itW, iRng, bName, bTup, bAll, eMt, ePush, eJoin, jsW, e1M, e2M, sAug, sSup, sFldS, sTree, wipeS, lenW, tupleW, frzb, toW, clsO, eSl, oSome, oNone, Sm.ret, Sm.bad, List.map_cons, List.map_nil, List.length_cons, List.length_nil, List.cons_append, List.nil_append, List.append_nil, List.replicate_succ, List.replicate_zero, List.set_cons_succ, List.set_cons_zero, List.getElem?_cons_succ, List.getElem?_cons_zero, List.length_append, List.length_map, if_true, if_false, reduceIte, Bool.true_and, Bool.and_true, Bool.not_true, Bool.not_false, Option.map_some, Option.map_none, Option.bind_some, Option.bind_none, le_size, lt_size, Nat.reduceLeDiff, Nat.reduceAdd, Nat.reduceSub, Nat.reducePow, Nat.zero_add, decide_eq_true_eq, Nat.reduceLT, gt_iff_lt, ge_iff_le, decide_true, decide_false, Bool.false_eq_true, Bool.or_true, Bool.true_or, Bool.or_false, Bool.false_or, Bool.false_and, Bool.and_false, or_true, true_or, and_true, true_and, or_false, false_or, and_false, false_and, and_self, not_false_eq_true, not_true_eq_false, e1, eMeth, cls_tw, tn_in, no_put, pu1, pu2, i1, i2, l1, l2, l3, l4, l5, n1, n2, x1, y0, ixW, eE, sub_int, add_int, r1, r2, f1, f2, ne_nil, e2, lt_int, hlt2.symm, hlt, pu3, pu4, hsh.symm, pu5, i3, l6, l7, n3, x2, y1]
  · refine ⟨.val (.int a), .val (tw u), .val (.int (co - cs)), .val (.int (E + b)), u14, u15, u16, m2, ?_, g2⟩
    simp only [inB9]
    simp (decide := true) only [runB, runI, bnd, lift, exS, sSeq, sSeqF, sNil, sSet, sSetN, sSetL, sIf, sRet, sRetN, sExp, sFor, sExt, sApp, sFrz, sPar, sPar3, sUnp, sSetIx, sBrk, sCnt, eVar, rVar, eC, op1, op2, eCall, eNew, aCons, aNil, aStar, eTup, eL, nLst, nRev, nLc, eBlt, eIf, eAnd, eOr, eNotV, tTru, tBl, tNt, tAn, tOrr, tYesM, truW, blW, eChain, iSeq, itW, iRng, bName, bTup, bAll, eMt, ePush, eJoin, jsW, e1M, e2M, sAug, sSup, sFldS, sTree, wipeS, lenW, tupleW, frzb, toW, clsO, eSl, oSome, oNone, Sm.ret, Sm.bad, List.map_cons, List.map_nil, List.length_cons, List.length_nil, List.cons_append, List.nil_append, List.append_nil, List.replicate_succ, List.replicate_zero, List.set_cons_succ, List.set_cons_zero, List.getElem?_cons_succ, List.getElem?_cons_zero, List.length_append, List.length_map, if_true, if_false, reduceIte, Bool.true_and, Bool.and_true, Bool.not_true, Bool.not_false, Option.map_some, Option.map_none, Option.bind_some, Option.bind_none, le_size, lt_size, Nat.reduceLeDiff, Nat.reduceAdd, Nat.reduceSub, Nat.reducePow, Nat.zero_add, decide_eq_true_eq, Nat.reduceLT, gt_iff_lt, ge_iff_le, decide_true, decide_false, Bool.false_eq_true, Bool.or_true, Bool.true_or, Bool.or_false, Bool.false_or, Bool.false_and, Bool.and_false, or_true, true_or, and_true, true_and, or_false, false_or, and_false, false_and, and_self, not_false_eq_true, not_true_eq_false, e1, eMeth, cls_tw, tn_in, no_put, pu1, pu2, i1, i2, l1, l2, l3, l4, l5, n1, n2, x1, y0, ixW, eE, sub_int, add_int, r1, r2, f1, f2, ne_nil, e2, lt_int, hlt]
end Pl

namespace Pl
open PySem PySem.Spec PyProof.Rows L2 Sm
theorem in9_loop {Γ : Gam} (H : F9 Γ) {t o p : T} (gt : Gd t) (go : Gd o) (gp : Gd p) (ht : cnt t ≤ 100) (ho : cnt o ≤ 100) (hp : cnt p ≤ 100) (dt : dep t ≤ 9) (do_ : dep o ≤ 9) (dp : dep p ≤ 9) (v0 u2 v3 u5 u17 u18 : Sl) (r : Sto) : ∀ (ws : List W) (u4 u10 u11 u12 u13 u14 u15 u16 : Sl) (m : Sto), DD r m →
    ∃ (u4' u10' u11' u12' u13' u14' u15' u16' : Sl) (m' : Sto), forW (bName 4) (inB9 Γ) ws [v0, .val (.ref 1), u2, v3, u4, u5, .val (tw t), .val (.lst (endsT t)), .val (tw o), .val (tw p), u10, u11, u12, u13, u14, u15, u16, u17, u18] m = .ok (.nx [v0, .val (.ref 1), u2, v3, u4', u5, .val (tw t), .val (.lst (endsT t)), .val (tw o), .val (tw p), u10', u11', u12', u13', u14', u15', u16', u17, u18]) m' ∧ DD r m'
  | [], u4, u10, u11, u12, u13, u14, u15, u16, m, h => ⟨u4, u10, u11, u12, u13, u14, u15, u16, m, rfl, h⟩
  | w :: ws, u4, u10, u11, u12, u13, u14, u15, u16, m, h => by
    obtain ⟨x10, x11, x12, x13, x14, x15, x16, m1, e1, h1⟩ := inner9 H gt go gp ht ho hp dt do_ dp v0 u2 v3 w u5 u10 u11 u12 u13 u14 u15 u16 u17 u18 r m h
    obtain ⟨y4, y10, y11, y12, y13, y14, y15, y16, m2, e2, h2⟩ := in9_loop H gt go gp ht ho hp dt do_ dp v0 u2 v3 u5 u17 u18 r ws (.val w) x10 x11 x12 x13 x14 x15 x16 m1 h1
    refine ⟨y4, y10, y11, y12, y13, y14, y15, y16, m2, ?_, h2⟩
    simp only [forW, bName, List.set_cons_succ, List.set_cons_zero, e1]
    exact e2
noncomputable abbrev outB9 (Γ : Gam) : Fs := (sSeq (sSet 3 (eCall 3 (Γ.f 12) [] (aCons (eVar 1) (aCons (ePush (nLst (aCons (eC (.int 28)) aNil))) (aCons (eCall 2 (Γ.f 9) [] (aCons (eVar 1) (aCons (eL (nLst (aCons (eC (.int 3)) (aCons (eC (.int 5)) (aCons (eC (.int 9)) aNil))))) aNil))) aNil)))))
    (sSeq (sUnp (bTup [(bName 6), (bName 7)]) (eTup (aCons (eCall 1 (Γ.f 17) [] (aCons (eVar 3) aNil)) (aCons (eCall 1 (Γ.f 18) [] (aCons (eVar 3) aNil)) aNil))))
    (sSeq (sUnp (bTup [(bName 8), (bName 9)]) (eL (nLc (iRng rng1 (aCons (eC (.int 2)) aNil)) [4] (bName 4) tYesM (eCall 1 (Γ.f 17) [] (aCons (eCall 3 (Γ.f 12) [] (aCons (eVar 1) (aCons (ePush (nLst (aCons (eC (.int 4)) aNil))) (aCons (eC (.int 2)) aNil)))) aNil)))))
    (sSeq (sFor (iRng rng1 (aCons (eC (.int 5)) aNil)) (bName 4) (sSeq (sSet 10 (eCall 2 (Γ.f 8) [] (aCons (eVar 1) (aCons (eBlt lenW (aCons (rVar 7) aNil)) aNil))))
    (sSeq (sSet 11 (eMeth "put" Tt 3 [] (Γ.m 9) (eVar 6) (aCons (eVar 10) (aCons (eVar 8) aNil))))
    (sSeq (sIf (tOrr (tBl (e2M (notM Tt (Γ.m 5)) (e2M (itemM Tt (Γ.m 8)) (eVar 11) (eVar 10)) (eVar 8))) (tBl (op2 neW (e1M (lenM Tt (Γ.m 7)) (eVar 11)) (op2 addW (op2 subW (e1M (lenM Tt (Γ.m 7)) (eVar 6)) (e1M (lenM Tt (Γ.m 7)) (e2M (itemM Tt (Γ.m 8)) (eVar 6) (eVar 10)))) (e1M (lenM Tt (Γ.m 7)) (eVar 8)))))) (sRet (eC (.bl false))) sNil)
    (sSeq (sIf (tBl (e2M (notM Tt (Γ.m 5)) (eMeth "put" Tt 3 [] (Γ.m 9) (eVar 11) (aCons (eVar 10) (aCons (e2M (itemM Tt (Γ.m 8)) (eVar 6) (eVar 10)) aNil))) (eVar 6))) (sRet (eC (.bl false))) sNil)
    (sSeq (sSet 12 (op2 subW (e1M (lenM Tt (Γ.m 7)) (eVar 8)) (e1M (lenM Tt (Γ.m 7)) (e2M (itemM Tt (Γ.m 8)) (eVar 6) (eVar 10)))))
    (sSeq (sIf (tBl (op2 neW (eL (nLc (iRng rng2 (aCons (op2 ixW (rVar 7) (rVar 10)) (aCons (e1M (lenM Tt (Γ.m 7)) (eVar 6)) aNil))) [17] (bName 17) (tBl (e2M (notM Tt (Γ.m 5)) (e2M (itemM Tt (Γ.m 8)) (eVar 11) (op2 addW (rVar 17) (rVar 12))) (e2M (itemM Tt (Γ.m 8)) (eVar 6) (eVar 17)))) (eVar 17))) (eL (nLst aNil)))) (sRet (eC (.bl false))) sNil)
    (sSeq (sIf (tBl (op2 neW (eL (nLc (iRng rng1 (aCons (eVar 10) aNil)) [17] (bName 17) (tAn (tBl (op2 (cmpI fun i j => decide (i ≤ j)) (op2 ixW (rVar 7) (rVar 17)) (rVar 10))) (tBl (e2M (notM Tt (Γ.m 5)) (e2M (itemM Tt (Γ.m 8)) (eVar 11) (eVar 17)) (e2M (itemM Tt (Γ.m 8)) (eVar 6) (eVar 17))))) (eVar 17))) (eL (nLst aNil)))) (sRet (eC (.bl false))) sNil)
    (sSeq (sSet 13 (op2 addW (op2 ixW (rVar 7) (rVar 10)) (eCall 2 (Γ.f 8) [] (aCons (eVar 1) (aCons (op2 addW (op2 subW (e1M (lenM Tt (Γ.m 7)) (eVar 6)) (op2 ixW (rVar 7) (rVar 10))) (eC (.int 1))) aNil)))))
    (sIf (tBl (op2 (cmpI fun i j => decide (i < j)) (rVar 13) (e1M (lenM Tt (Γ.m 7)) (eVar 6)))) (sSeq (sSet 14 (eMeth "put" Tt 3 [] (Γ.m 9) (eMeth "put" Tt 3 [] (Γ.m 9) (eVar 6) (aCons (eVar 13) (aCons (eVar 9) aNil))) (aCons (eVar 10) (aCons (eVar 8) aNil))))
    (sSeq (sSet 15 (op2 addW (rVar 13) (rVar 12)))
    (sSeq (sIf (tBl (e2M (notM Tt (Γ.m 5)) (eMeth "put" Tt 3 [] (Γ.m 9) (eVar 11) (aCons (eVar 15) (aCons (eVar 9) aNil))) (eVar 14))) (sRet (eC (.bl false))) sNil)
    (sSeq (sSet 16 (op2 addW (op2 subW (e1M (lenM Tt (Γ.m 7)) (eVar 11)) (e1M (lenM Tt (Γ.m 7)) (e2M (itemM Tt (Γ.m 8)) (eVar 6) (eVar 13)))) (e1M (lenM Tt (Γ.m 7)) (eVar 9))))
    (sIf (tBl (op2 neW (e1M (lenM Tt (Γ.m 7)) (eVar 14)) (rVar 16))) (sRet (eC (.bl false))) sNil))))) sNil))))))))))
    (sSeq (sSeqF 5 (sSetN 5 (nLc (iRng rng1 (aCons (e1M (lenM Tt (Γ.m 7)) (eVar 6)) aNil)) [17] (bName 17) tYesM (e1M (lenM Tt (Γ.m 7)) (e2M (itemM Tt (Γ.m 8)) (eVar 6) (eVar 17))))))
    (sIf (tOrr (tBl (e2M (notM Tt (Γ.m 5)) (eMeth "put" Tt 3 [] (Γ.m 9) (eVar 6) (aCons (eC (.int 0)) (aCons (eVar 8) aNil))) (eVar 8))) (tBl (op2 neW (rVar 5) (eL (nLc (iEn (aCons (eVar 7) aNil)) [17, 18] (bTup [(bName 17), (bName 18)]) tYesM (op2 subW (rVar 18) (rVar 17))))))) (sRet (eC (.bl false))) sNil))))))
theorem law_b9 (Γ : Gam) : b_law Γ = sSeq (sSet 1 (eCall 2 (Γ.f 7) [] (aCons (eVar 0) (aCons (eC (.int 0)) aNil)))) (sSeq (sFor (iRng rng1 (aCons (eC (.int 3)) aNil)) (bName 2) (outB9 Γ)) (sRet (eC (.bl true)))) := rfl
def szs (t : T) : List W := ((nds t).map fun s => (cnt s : Int)).map W.int
theorem szs_at {t : T} {i : Nat} {y : W} (h : (szs t)[i]? = some y) : ∃ s, (nds t)[i]? = some s ∧ y = .int (cnt s : Int) := by
  unfold szs at h
  rw [List.getElem?_map, List.getElem?_map] at h
  cases e : (nds t)[i]? with
  | none => rw [e] at h; cases h
  | some s => rw [e] at h; cases h; exact ⟨s, rfl, rfl⟩
theorem outer9 {Γ : Gam} (H : F9 Γ) (v0 : Sl) (w : W) (u3 u4 u5 u6 u7 u8 u9 u10 u11 u12 u13 u14 u15 u16 u17 u18 : Sl) (r m : Sto) (h : DD r m) : ∃ (us' : SS) (r' m' : Sto), us'.length = 17 ∧ outB9 Γ [v0, .val (.ref 1), .val w, u3, u4, u5, u6, u7, u8, u9, u10, u11, u12, u13, u14, u15, u16, u17, u18] m = .ok (.nx (v0 :: .val (.ref 1) :: us')) m' ∧ DD r' m' := by
  obtain ⟨g1, l1⟩ := DD_push h (.lst [.int 28])
  obtain ⟨wd, m2, e2, hwd, g2⟩ := H.pick _ _ g1 [.int 3, .int 5, .int 9] (by simp) (by simp)
  obtain ⟨d, rfl, hd⟩ : ∃ d : Int, wd = .int d ∧ d ≤ 9 := by
    simp only [List.mem_cons, List.not_mem_nil, or_false] at hwd
    rcases hwd with h | h | h
    · exact ⟨3, h, by omega⟩
    · exact ⟨5, h, by omega⟩
    · exact ⟨9, h, by omega⟩
  obtain ⟨t, m3, rt, e3, g3, wt, dt, ct, zt⟩ := H.grown d _ _ r.length m.length 28 l1 (by omega) g2 (by simp) (by omega) (by omega)
  have gt : Gd t := ⟨wt, by omega⟩
  obtain ⟨g4, l4⟩ := DD_push g3 (.lst [.int 4])
  obtain ⟨o, m5, ro, e5, g5, wo, do_, co, zo⟩ := H.grown 2 _ _ _ m3.length 4 l4 (by omega) g4 (by simp) (by omega) (by omega)
  have go : Gd o := ⟨wo, by omega⟩
  obtain ⟨g6, l6⟩ := DD_push g5 (.lst [.int 4])
  obtain ⟨p, m7, rp, e7, g7, wp, dp, cp, zp⟩ := H.grown 2 _ _ _ m5.length 4 l6 (by omega) g6 (by simp) (by omega) (by omega)
  have gp : Gd p := ⟨wp, by omega⟩
  have k1 := fun m => H.mak t m gt dt
  have k2 := fun m => H.mak o m go do_
  have k3 := fun m => H.mak p m gp dp
  have k4 := fun m => H.ends t m dt gt.c
  obtain ⟨y4, y10, y11, y12, y13, y14, y15, y16, m8, e8, g8⟩ := in9_loop H gt go gp (by omega) (by omega) (by omega) dt do_ dp v0 (.val w) (.val (told t)) u5 u17 u18 _ [.int 0, .int 1, .int 2, .int 3, .int 4] u4 u10 u11 u12 u13 u14 u15 u16 m7 g7
  have rr5 : rng1 [.int 5] = some [.int 0, .int 1, .int 2, .int 3, .int 4] := rfl
  have rr2 : rng1 [.int 2] = some [.int 0, .int 1] := rfl
  obtain ⟨ci, hci⟩ : ∃ ci : Int, ci = cnt t := ⟨_, rfl⟩
  have l2 : ∀ m, lenM Tt (Γ.m 7) (tw t) m = .ok (.int ci) m := fun m => H.len t ci m (by omega) hci
  have rrc : rng1 [.int ci] = some ((List.range ci.toNat).map fun k : Nat => .int k) := by
    simp only [rng1]
    rw [if_pos (by omega)]
  have hsl : (szs t).length = cnt t := by simp [szs, nds_len]
  have f3 : ∀ τ : SS, τ.length = 19 → τ[6]? = some (.val (tw t)) → lcM (bName 17) tYesM (e1M (lenM Tt (Γ.m 7)) (e2M (itemM Tt (Γ.m 8)) (eVar 6) (eVar 17))) τ ((List.range ci.toNat).map fun k : Nat => .int k) m8 = .ok (szs t) m8 := fun τ hl h6 => lc_pt _ _ (by rw [hsl]; simp; omega) fun i x y ex ey => by
    obtain ⟨s, hs, rfl⟩ := szs_at ey
    rw [List.getElem?_map] at ex
    have ex2 : x = .int ((i : Nat) : Int) := by
      cases e : (List.range ci.toNat)[i]? with
      | none => rw [e] at ex; cases ex
      | some k =>
        rw [e] at ex
        have := List.getElem?_range (n := ci.toNat) (i := i) (by have := (List.getElem?_eq_some_iff.mp e).1; simpa using this)
        rw [e] at this
        cases this
        cases ex
        rfl
    subst ex2
    obtain ⟨z, hz⟩ : ∃ z : Int, z = i := ⟨_, rfl⟩
    obtain ⟨cz, hcz⟩ : ∃ cz : Int, cz = cnt s := ⟨_, rfl⟩
    rw [← hz, ← hcz]
    have j1 := H.item t s z i m8 hz hs
    have ms : s ∈ nds t := List.mem_of_getElem? hs
    have j2 := H.len s cz m8 (by have := cnt_nds ms; omega) hcz
    have s6 : (τ.set 17 (.val (.int z)))[6]? = some (.val (tw t)) := by rw [List.getElem?_set_ne (by decide)]; exact h6
    have s17 : (τ.set 17 (.val (.int z)))[17]? = some (.val (.int z)) := by simp [hl]
    exact ⟨τ.set 17 (.val (.int z)), rfl, by simp (decide := true) only [runB, runI, bnd, lift, exS, sSeq, sSeqF, sNil, sSet, sSetN, sSetL, sIf, sRet, sRetN, sExp, sFor, sExt, sApp, sFrz, sPar, sPar3, sUnp, sSetIx, sBrk, sCnt, eVar, rVar, eC, op1, op2, eCall, eNew, aCons, aNil, aStar, eTup, eL, nLst, nRev, nLc, eBlt, eIf, eAnd, eOr, eNotV, tTru, tBl, tNt, tAn, tOrr, tYesM, truW, blW, eChain, iSeq, itW, iRng, bName, bTup, bAll, eMt, ePush, eJoin, jsW, e1M, e2M, sAug, sSup, sFldS, sTree, wipeS, lenW, tupleW, frzb, toW, clsO, eSl, oSome, oNone, Sm.ret, Sm.bad, List.map_cons, List.map_nil, List.length_cons, List.length_nil, List.cons_append, List.nil_append, List.append_nil, List.replicate_succ, List.replicate_zero, List.set_cons_succ, List.set_cons_zero, List.getElem?_cons_succ, List.getElem?_cons_zero, List.length_append, List.length_map, if_true, if_false, reduceIte, Bool.true_and, Bool.and_true, Bool.not_true, Bool.not_false, Option.map_some, Option.map_none, Option.bind_some, Option.bind_none, le_size, lt_size, Nat.reduceLeDiff, Nat.reduceAdd, Nat.reduceSub, Nat.reducePow, Nat.zero_add, decide_eq_true_eq, Nat.reduceLT, gt_iff_lt, ge_iff_le, decide_true, decide_false, Bool.false_eq_true, Bool.or_true, Bool.true_or, Bool.or_false, Bool.false_or, Bool.false_and, Bool.and_false, or_true, true_or, and_true, true_and, or_false, false_or, and_false, false_and, and_self, not_false_eq_true, not_true_eq_false, s6, s17, j1, j2]⟩
  have f4 : ∀ τ : SS, τ.length = 19 → lcM (bTup [(bName 17), (bName 18)]) tYesM (op2 subW (rVar 18) (rVar 17)) τ (enL (endsT t)) m8 = .ok (szs t) m8 := fun τ hl => lc_pt _ _ (by rw [hsl]; simp [enL, endsT_len]) fun i x y ex ey => by
    obtain ⟨s, hs, rfl⟩ := szs_at ey
    have ex2 : x = .tup [.int ((i : Nat) : Int), .int ((i : Int) + (cnt s : Int))] := by
      unfold enL at ex
      rw [List.getElem?_mapIdx, ends_at hs] at ex
      cases ex
      rfl
    subst ex2
    obtain ⟨z, hz⟩ : ∃ z : Int, z = i := ⟨_, rfl⟩
    obtain ⟨cz, hcz⟩ : ∃ cz : Int, cz = cnt s := ⟨_, rfl⟩
    rw [← hz, ← hcz]
    have s17 : ((τ.set 17 (.val (.int z))).set 18 (.val (.int (z + cz))))[17]? = some (.val (.int z)) := by rw [List.getElem?_set_ne (by decide)]; simp [hl]
    have s18 : ((τ.set 17 (.val (.int z))).set 18 (.val (.int (z + cz))))[18]? = some (.val (.int (z + cz))) := by simp [hl]
    have hsub : z + cz - z = cz := by omega
    exact ⟨(τ.set 17 (.val (.int z))).set 18 (.val (.int (z + cz))), rfl, by simp (decide := true) only [runB, runI, bnd, lift, exS, sSeq, sSeqF, sNil, sSet, sSetN, sSetL, sIf, sRet, sRetN, sExp, sFor, sExt, sApp, sFrz, sPar, sPar3, sUnp, sSetIx, sBrk, sCnt, eVar, rVar, eC, op1, op2, eCall, eNew, aCons, aNil, aStar, eTup, eL, nLst, nRev, nLc, eBlt, eIf, eAnd, eOr, eNotV, tTru, tBl, tNt, tAn, tOrr, tYesM, truW, blW, eChain, iSeq, itW, iRng, bName, bTup, bAll, eMt, ePush, eJoin, jsW, e1M, e2M, sAug, sSup, sFldS, sTree, wipeS, lenW, tupleW, frzb, toW, clsO, eSl, oSome, oNone, Sm.ret, Sm.bad, List.map_cons, List.map_nil, List.length_cons, List.length_nil, List.cons_append, List.nil_append, List.append_nil, List.replicate_succ, List.replicate_zero, List.set_cons_succ, List.set_cons_zero, List.getElem?_cons_succ, List.getElem?_cons_zero, List.length_append, List.length_map, if_true, if_false, reduceIte, Bool.true_and, Bool.and_true, Bool.not_true, Bool.not_false, Option.map_some, Option.map_none, Option.bind_some, Option.bind_none, le_size, lt_size, Nat.reduceLeDiff, Nat.reduceAdd, Nat.reduceSub, Nat.reducePow, Nat.zero_add, decide_eq_true_eq, Nat.reduceLT, gt_iff_lt, ge_iff_le, decide_true, decide_false, Bool.false_eq_true, Bool.or_true, Bool.true_or, Bool.or_false, Bool.false_or, Bool.false_and, Bool.and_false, or_true, true_or, and_true, true_and, or_false, false_or, and_false, false_and, and_self, not_false_eq_true, not_true_eq_false, s17, s18, sub_int, hsub]⟩
  have pu0 : ∀ m, Γ.m 9 (tn t) [tw t, .int 0, tw o] m = .ok (tw o) m := fun m => (H.put t o 0 0 m rfl (cnt_pos t) (by omega) wt wo (by omega)).trans (by rw [putT_0])
  have n1 : ∀ m, notM Tt (Γ.m 5) (tw o) (tw o) m = .ok (.bl false) m := fun m => notM_F (H.eq o m go)
  have n2 : neW (.lst (szs t)) (.lst (szs t)) m8 = some (.bl false) := ne_ints _ _
  have hs16 : (szs t).length ≤ 16777216 := by rw [hsl]; omega
  refine ⟨[.val w, .val (told t), y4, .val (.lst (szs t)), .val (tw t), .val (.lst (endsT t)), .val (tw o), .val (tw p), y10, y11, y12, y13, y14, y15, y16, u17, u18], _, m8, rfl, ?_, g8⟩
  simp only [outB9]
  simp only [inB9] at e8
  simp (decide := true) only [runB, runI, bnd, lift, exS, sSeq, sSeqF, sNil, sSet, sSetN, sSetL, sIf, sRet, sRetN, sExp, sFor, sExt, sApp, sFrz, sPar, sPar3, sUnp, sSetIx, sBrk, sCnt, eVar, rVar, eC, op1, op2, eCall, eNew, aCons, aNil, aStar, eTup, eL, nLst, nRev, nLc, eBlt, eIf, eAnd, eOr, eNotV, tTru, tBl, tNt, tAn, tOrr, tYesM, truW, blW, eChain, iSeq, itW, iRng, bName, bTup, bAll, eMt, ePush, eJoin, jsW, e1M, e2M, sAug, sSup, sFldS, sTree, wipeS, lenW, tupleW, frzb, toW, clsO, eSl, oSome, oNone, Sm.ret, Sm.bad, List.map_cons, List.map_nil, List.length_cons, List.length_nil, List.cons_append, List.nil_append, List.append_nil, List.replicate_succ, List.replicate_zero, List.set_cons_succ, List.set_cons_zero, List.getElem?_cons_succ, List.getElem?_cons_zero, List.length_append, List.length_map, if_true, if_false, reduceIte, Bool.true_and, Bool.and_true, Bool.not_true, Bool.not_false, Option.map_some, Option.map_none, Option.bind_some, Option.bind_none, le_size, lt_size, Nat.reduceLeDiff, Nat.reduceAdd, Nat.reduceSub, Nat.reducePow, Nat.zero_add, decide_eq_true_eq, Nat.reduceLT, gt_iff_lt, ge_iff_le, decide_true, decide_false, Bool.false_eq_true, Bool.or_true, Bool.true_or, Bool.or_false, Bool.false_or, Bool.false_and, Bool.and_false, or_true, true_or, and_true, true_and, or_false, false_or, and_false, false_and, and_self, not_false_eq_true, not_true_eq_false, e2, e3, k1, k2, k3, k4, rr2, lcM, e5, e7, rr5, e8, l2, rrc, f3, hs16, eMeth, cls_tw, tn_in, no_put, pu0, n1, iEn, f4, n2]
theorem law_plainS (ns : List Int) (hn : ns.length ≤ 63) : ∃ m', (Sv 45).f 19 [.lst (ns.map .int)] [] = .ok (.bl true) m' := by
  obtain ⟨m, e, h⟩ := deal_K (K := 44) (by omega) ns hn
  have H := f9_K (K := 44) (by omega)
  rw [Sf_law, law_b9]
  generalize Sv 44 = Γ at e H ⊢
  have loop : ∀ (ws : List W) (us : SS) (r m : Sto), us.length = 17 → DD r m → ∃ us' r' m', us'.length = 17 ∧ DD r' m' ∧ forW (bName 2) (outB9 Γ) ws (.val (.lst (ns.map .int)) :: .val (.ref 1) :: us) m = .ok (.nx (.val (.lst (ns.map .int)) :: .val (.ref 1) :: us')) m' := by
    intro ws
    induction ws with
    | nil => exact fun us r m hl h => ⟨us, r, m, hl, h, rfl⟩
    | cons w ws ih =>
      intro us r m hl h
      match us, hl with
      | [u2, u3, u4, u5, u6, u7, u8, u9, u10, u11, u12, u13, u14, u15, u16, u17, u18], _ =>
        obtain ⟨us1, r1, m1, l1, e1, h1⟩ := outer9 H (.val (.lst (ns.map .int))) w u3 u4 u5 u6 u7 u8 u9 u10 u11 u12 u13 u14 u15 u16 u17 u18 r m h
        obtain ⟨us2, r2, m2, l2, h2, e2⟩ := ih us1 r1 m1 l1 h1
        refine ⟨us2, r2, m2, l2, h2, ?_⟩
        simp only [forW, bName, List.set_cons_succ, List.set_cons_zero, e1]
        exact e2
  have er : rng1 [.int 3] = some [.int 0, .int 1, .int 2] := rfl
  obtain ⟨us', r', m', _, _, e2⟩ := loop [.int 0, .int 1, .int 2] [.un, .un, .un, .un, .un, .un, .un, .un, .un, .un, .un, .un, .un, .un, .un, .un, .un] [] m rfl h
  refine ⟨m', ?_⟩
  generalize outB9 Γ = B at e2 ⊢
  simp (decide := true) only [runB, runI, bnd, lift, exS, sSeq, sSeqF, sNil, sSet, sSetN, sSetL, sIf, sRet, sRetN, sExp, sFor, sExt, sApp, sFrz, sPar, sPar3, sUnp, sSetIx, sBrk, sCnt, eVar, rVar, eC, op1, op2, eCall, eNew, aCons, aNil, aStar, eTup, eL, nLst, nRev, nLc, eBlt, eIf, eAnd, eOr, eNotV, tTru, tBl, tNt, tAn, tOrr, tYesM, truW, blW, eChain, iSeq, itW, iRng, bName, bTup, bAll, eMt, ePush, eJoin, jsW, e1M, e2M, sAug, sSup, sFldS, sTree, wipeS, lenW, tupleW, frzb, toW, clsO, eSl, oSome, oNone, Sm.ret, Sm.bad, List.map_cons, List.map_nil, List.length_cons, List.length_nil, List.cons_append, List.nil_append, List.append_nil, List.replicate_succ, List.replicate_zero, List.set_cons_succ, List.set_cons_zero, List.getElem?_cons_succ, List.getElem?_cons_zero, List.length_append, List.length_map, if_true, if_false, reduceIte, Bool.true_and, Bool.and_true, Bool.not_true, Bool.not_false, Option.map_some, Option.map_none, Option.bind_some, Option.bind_none, le_size, lt_size, Nat.reduceLeDiff, Nat.reduceAdd, Nat.reduceSub, Nat.reducePow, Nat.zero_add, decide_eq_true_eq, Nat.reduceLT, gt_iff_lt, ge_iff_le, decide_true, decide_false, Bool.false_eq_true, Bool.or_true, Bool.true_or, Bool.or_false, Bool.false_or, Bool.false_and, Bool.and_false, or_true, true_or, and_true, true_and, or_false, false_or, and_false, false_and, and_self, not_false_eq_true, not_true_eq_false, N_law, e, er, e2]
end Pl
namespace Sm
theorem law_plain (ns : List Int) (hn : ns.length ≤ 63) : ∃ m', (Sv 45).f 19 [.lst (ns.map .int)] [] = .ok (.bl true) m' := Pl.law_plainS ns hn
end Sm

namespace Sm
open PySem PySem.Spec PyProof.Rows L2
theorem law_facts {P : Program} {w : World} {K : PySem.W.Frag} {h : Heap} {mg : Str → Option Value} {f : Addr} (hf : (P.main.file : Str) = fileK) (top : (P.main.scope.names.lookup ("super" : Str)).isSome = false) (X : K.In h) (G : h.Ns mainGlobals mg) (hfa : mg ("law" : Str) = some (.ref f)) (c : SaysU Bk ds K) :
    ∃ fd : FuncData, (∀ (s : Shared) (v : Value), BindsTo s fd ⟨[v], []⟩ [("_law_script_here", v)]) ∧ ∀ base : Heap, K.In base → base.Ns mainGlobals mg → FnOk P w K mg base (CX P w) (4 * 45) f fd ["_law_script_here"] (spF ⟨K, He.ga K⟩ 1 ((Sv 45).f 19)) := by
  have b := Bk_of c.b
  have bd : ∀ (i : Nat) {z : Bool}, (Bdd K)[i]? = some z → z = true := fun i z e => List.all_eq_true.mp b.2.2.1 z (List.mem_of_getElem? e)
  obtain ⟨fd, Fd⟩ := funD_of (d := ⟨("law", none), "law", "law", defArgs st_law, defBody st_law, defScope st_law⟩) (c.d 19) (bd 19 (by rfl))
  have e := hfa.symm.trans (He.glo_ok X G (List.all_eq_true.mp b.2.2.2.2.2.1 "law" (by decide)))
  cases e
  have bb := FunD.bindsA (ps := ["_law_script_here"]) Fd fun _ _ _ _ _ _ us hl => match us, hl with | [_], _ => rfl
  exact ⟨fd, fun s v => bb s [v] rfl, fun base _ _ => (oks_all hf top c X G 45).o19 fd Fd⟩
end Sm
open PySem PySem.W PySem.Calls PyProof.Rows
theorem PySem.Challenge.cw_deedtrees_k09_whole_nodes_exchanged_holds : PySem.Challenge.rw_deedtrees_k09_whole_nodes_exchanged.Holds := by
  w_on; o_law
  refine HandSHeadRun.head_any (r := OpenLaw.row PySem.Challenge.rw_deedtrees_k09_whole_nodes_exchanged) (q := view (OpenLaw.row PySem.Challenge.rw_deedtrees_k09_whole_nodes_exchanged).prog [59]) (H := Sm.hk) (ob := Sm.ob) (M := 20000) (loose := Sm.looseA) (d := HandSHeadRun.topDef (OpenLaw.row PySem.Challenge.rw_deedtrees_k09_whole_nodes_exchanged).prog 59) (kwd := []) Sm.ob_eq
    (by kernel_rfl) (fun s => by kernel_rfl) (fun w => PySem.W.byRow2 "special-get-raises" Sm.run_f Sm.run_t w) (by kernel_rfl) (by kernel_rfl) (by kernel_rfl) (by rfl) (by first | assumption | decide +kernel) (by decide +kernel) ⟨rfl, rfl, rfl, rfl, rfl, by decide +kernel⟩ ?hw ?hc
  case hw => w_witness2
  case hc =>
    refine L2.walk_ofE (l := PySem.Challenge.rw_deedtrees_k09_whole_nodes_exchanged) (n := 63) (k := 4 * 45) (x := "_law_script_here") (CX := L2.CX0) rfl (by decide) (by kernel_rfl) ⟨rfl, by decide, by decide⟩ ?F (fun _ _ _ _ z => z)
    intro w mg fa h Y G hmg0
    obtain ⟨K, KX, c⟩ := Y
    have hmg : mg ("law" : PySem.Str) = some (.ref fa) := by
      have e : (HandSHeadRun.topDef (OpenLaw.row PySem.Challenge.rw_deedtrees_k09_whole_nodes_exchanged).prog 59).name = ("law" : PySem.Str) := by kernel_rfl
      rw [← e]
      exact hmg0
    obtain ⟨fd, hb, hF⟩ := Sm.law_facts (P := (PySem.Challenge.rw_deedtrees_k09_whole_nodes_exchanged).prog) (w := w) (by kernel_rfl) (by kernel_rfl) KX G hmg c
    exact ⟨K, fd, fun vs H Q _ => Sm.spF ⟨K, He.ga K⟩ 1 ((Sm.Sv 45).f 19) vs H Q fun _ _ _ => False, KX, hb, fun H a ns hl hO hS => Sm.law_end hO hS (Sm.rd_of (Sm.Bk_of c.b).2.2.2.2.2.2.1 hS) (Sm.law_plain ns hl), fun base h1 h2 => Sm.noX (hF base h1 h2)⟩

